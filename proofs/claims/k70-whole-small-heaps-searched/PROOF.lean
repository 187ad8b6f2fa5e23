import PyProof.Rows.All
import Wide.All
import OpenK.AllK
import Wide.FinOn
import HandS.ForMost
import HandS.Strs
import HandS.TupSets
import KE.SortData
import HandS.Walk
import HandS.Zip
import HandS.TupAny
import HandS.TupMul
import HandS.Wide
import HandS.IsInst
import HandS.Deep
import HandS.DictComp
import KE.GoesMore
import KE.KDictKeyed
import KE.KeyNested
import HandS.Conv
import PyProof.P3In
import HandS.Style
import HandS.More
import HandS.Text
import KE.KDictCopyH
import KE.DataFind
import PySem.Challenge.RW_shadebarriers_k70_whole_small_heaps_sear
set_option Elab.async false
set_option linter.all false
set_option maxRecDepth 100000
/-! sorted(set(xs)) of numbers, of texts and of tuples of texts: some list of the same members. -/
namespace Sbx
open PySem PySem.Spec PyProof.Rows L2

/-- a set stands at a, its rows es, its table t can be walked -/
structure SG (w : World) (h : Heap) (a : Addr) (es : Array (Int × Value)) (t : SetTable) : Prop where
  ob : ∃ o ep, h.get? a = some o ∧ o.ExactSet ∧ o.data = .set es ep t
  fits : t.fits es.size = true
  few : es.size < scanBound
  ris : Ris t.place.toList
  led : w.params.followText "set-order" = true ∨ t.led = true
theorem SG.at {w : World} {h h' : Heap} {a : Addr} {es : Array (Int × Value)} {t : SetTable} (g : SG w h a es t) (k : ∀ o, h.get? a = some o → h'.get? a = some o) : SG w h' a es t :=
  let ⟨⟨o, ep, ho, r⟩, b, c, d, e⟩ := g
  ⟨⟨o, ep, k o ho, r⟩, b, c, d, e⟩
theorem sg_fresh {w : World} {h : Heap} {a : Addr} (ho : h.get? a = some { cls := .type "set", dict := none, data := .set #[] 0 (.fresh 0 0 (!w.params.followText "set-order")) }) : SG w h a #[] (.fresh 0 0 (!w.params.followText "set-order")) where
  ob := ⟨_, 0, ho, ⟨rfl, rfl, rfl⟩, rfl⟩
  fits := by rfl
  few := by decide
  ris := List.Pairwise.nil
  led := by
    show _ ∨ (!w.params.followText "set-order") = true
    cases w.params.followText "set-order" with
    | true => exact .inl rfl
    | false => exact .inr rfl
/-- the members' order by rows and values -/
abbrev Mem (κ : Type) := List (κ × Value)

section scan
variable {P : Program} {w : World} {A : Around} {E : Value → Shared → Prop} {s : Shared} {κ : Type} [DecidableEq κ] {knd : KeyKind P w κ} {a : Addr} {es : Array (Int × Value)} {t : SetTable}
/-- behind the new row: the store, and the table laid anew where it is too full -/
theorem scan_tail {g : Bool → Sem Unit} (hg : ∀ (b : Bool) (s1 : Shared) (Q' : Unit → Shared → Prop), Q' () s1 → wpAny (model P w) A (g b) Q' E s1) {o : Obj} {ep : Nat} (ho : s.heap.get? a = some o) (hex : o.ExactSet) (hd : o.data = .set es ep t)
    {es1 : Array (Int × Value)} {t2 : SetTable} (hb : es1.size < scanBound) (hf : t2.fits es1.size = true) (hr : Ris t2.place.toList) (hl : w.params.followText "set-order" = true ∨ t2.led = true) {wd : Bool} {R : Option Bool → Shared → Prop}
    (hR : ∀ h' es' t', Heap.SameBut a s.heap h' → SG w h' a es' t' → es'.toList.Perm es1.toList → R (some true) { s with heap := h' }) :
    wpAny (model P w) A (do
        storeSet a es1 t2
        if (!wd && t2.tooFull) = true then do
            g (relayAll t2 es1 (SetTable.grown es1.size)).2.2
            storeSet a (relayAll t2 es1 (SetTable.grown es1.size)).1 (relayAll t2 es1 (SetTable.grown es1.size)).2.1
            pure (some true)
          else pure (some true)) R E s := by
  refine wpAny_bind (wpAny_storeSet_of ho hd ?_ (fits_of_scanBound hb))
  have o1 := store_at (es' := es1) (t' := t2) ho hd
  have b1 := Heap.SameBut.update s.heap a (Obj.putSet es1 t2)
  by_cases hc : (!wd && t2.tooFull) = true
  · rw [if_pos hc]
    have p1 := relayAll_perm t2 es1 (SetTable.grown es1.size)
    have p2 := relayAll_fits t2 es1 (SetTable.grown es1.size)
    have p3 := relayAll_ris t2 es1 (SetTable.grown es1.size)
    have p4 := relayAll_led t2 es1 (SetTable.grown es1.size)
    generalize relayAll t2 es1 (SetTable.grown es1.size) = z at p1 p2 p3 p4 ⊢
    obtain ⟨e2, t3, gv⟩ := z
    dsimp only at p1 p2 p3 p4 ⊢
    have sz : e2.size = es1.size := by rw [← Array.length_toList, p1.length_eq, Array.length_toList]
    refine wpAny_bind (hg _ _ _ (wpAny_bind (wpAny_storeSet_of o1 rfl ?_ (fits_of_scanBound (by rw [sz]; exact hb)))))
    exact wpAny_pure (hR _ e2 t3 (b1.trans (Heap.SameBut.update _ a _)) ⟨⟨_, _, store_at o1 rfl, hex, rfl⟩, p2, by rw [sz]; exact hb, p3, hl.imp id fun q => p4.trans q⟩ p1)
  · rw [if_neg hc]
    exact wpAny_pure (hR _ es1 t2 b1 ⟨⟨_, _, o1, hex, rfl⟩, hf, hb, hr, hl⟩ (List.Perm.refl _))

theorem scan_add {k : κ} {v : Value} {Q : Bool → Shared → Prop} (g : SG w s.heap a es t) (hel : ElemsOf knd es.toList) (hk : knd.is k v = true) (hsc : v.scannable = true) (room : es.size + 1 < scanBound)
    (hQ : ∀ b h' es' t', Heap.SameBut a s.heap h' → SG w h' a es' t' → ((es' = es ∧ ∃ e ∈ es.toList, knd.is k e.2 = true) ∨ ((∀ e ∈ es.toList, knd.is k e.2 = false) ∧ es'.toList.Perm ((knd.hash k, v) :: es.toList))) → Q b { s with heap := h' }) :
    wpAny (model P w) A (setAddHashed a v (knd.hash k)) Q E s := by
  obtain ⟨⟨o, ep, ho, hex, hd⟩, hf, hb, hr, hl⟩ := id g
  unfold setAddHashed setAddHashedIn
  refine wpAny_holding (wpAny_bind (wpAny_setState_of ho hd hf ?_))
  dsimp only
  rw [byScan_of hsc hb hel]
  simp only [↓reduceIte]
  unfold setAddByScan
  refine wpAny_bind (wpAny_bind (wpAny_rule (wpAny_bind (wpAny_setScan_of hk ho hd hf hel ?_))))
  cases hfi : List.findIdx? (fun e => knd.is k e.2) es.toList with
  | some j =>
    dsimp only
    obtain ⟨hj, pj, _⟩ := List.findIdx?_eq_some_iff_getElem.mp hfi
    exact wpAny_pure (wpAny_pure (hQ _ s.heap es t (Heap.SameBut.refl a s.heap) g (.inl ⟨rfl, es.toList[j], List.getElem_mem hj, pj⟩)))
  | none =>
    dsimp only
    have gw : ∀ (b : Bool) {s1 : Shared} {Q' : Unit → Shared → Prop}, Q' () s1 → wpAny (model P w) A (match b with | true => rule "set.scan.the-table-gave-way" | false => pure ()) Q' E s1 := fun b s1 Q' q => by
      cases b
      · exact wpAny_pure q
      · exact wpAny_rule q
    have p1 := layNew_perm t es (knd.hash k) v
    have p2 := layNew_fits t es (knd.hash k) v
    have p3 := layNew_ris t es (knd.hash k) v hr
    have p4 := layNew_led t es (knd.hash k) v
    generalize layNew t es (knd.hash k) v = z at p1 p2 p3 p4 ⊢
    obtain ⟨e1, t1, wd, gv⟩ := z
    dsimp only at p1 p2 p3 p4 ⊢
    rw [Array.toList_push] at p1
    have pc : e1.toList.Perm ((knd.hash k, v) :: es.toList) := p1.trans (List.perm_append_singleton _ _)
    have sz : e1.size = es.size + 1 := by rw [← Array.length_toList, pc.length_eq, List.length_cons, Array.length_toList]
    have hb1 : e1.size < scanBound := by rw [sz]; exact room
    have hl1 : w.params.followText "set-order" = true ∨ t1.led = true := hl.imp id fun q => p4.trans q
    have fin : ∀ h' es' t', Heap.SameBut a s.heap h' → SG w h' a es' t' → es'.toList.Perm e1.toList → Q true { s with heap := h' } := fun h' es' t' sb G pm => hQ true h' es' t' sb G (.inr ⟨fun e he => by simpa using List.findIdx?_eq_none_iff.mp hfi e he, pm.trans pc⟩)
    refine wpAny_bind (gw _ ?_)
    split
    · refine wpAny_bind ?_
      rw [hashByValue_scannable 8 hsc]
      refine wpAny_pure ?_
      refine scan_tail (fun b s1 Q' q => gw b q) ho hex hd hb1 ?_ ?_ ?_ ?_
      · split
        · exact p2
        · exact SetTable.fits_plain_off p2
      · split <;> exact p3
      · split <;> exact hl1
      · intro h' es' t' sb G pm
        dsimp only
        exact wpAny_pure (fin h' es' t' sb G pm)
    · refine wpAny_bind (wpAny_pure ?_)
      simp only [↓reduceIte]
      refine scan_tail (fun b s1 Q' q => gw b q) ho hex hd hb1 p2 p3 hl1 ?_
      intro h' es' t' sb G pm
      dsimp only
      exact wpAny_pure (fin h' es' t' sb G pm)
end scan
end Sbx
/-! adding tuples of plain keys to a set: the search over the table -/
namespace Sbx
open PySem PySem.Spec PyProof.Rows L2
section
variable {P : Program} {w : World} {A : Around} {E : Value → Shared → Prop} {s : Shared} {κ : Type} [DecidableEq κ] {knd : KeyKind P w κ}
/-- what is asked of values that are carried by value -/
theorem plain_class (n : Nat) {v : Value} (h : carriedByValue v = true) : ofAClassStatement n v = pure false := by
  cases v with
  | ref _ => simp [carriedByValue] at h
  | _ => cases n <;> rfl
theorem plain_hash (n : Nat) {v : Value} (h : carriedByValue v = true) : ∃ b, hashByValue n v = pure b := by
  cases v with
  | ref _ => simp [carriedByValue] at h
  | _ => cases n <;> exact ⟨_, rfl⟩
theorem tup_class {k : List κ} {b : Addr} {Q : Bool → Shared → Prop} (hk : IsTupleKey knd s.heap k b) (h : Q false s) : wpAny (model P w) A (ofAClassStatement 8 (.ref b)) Q E s := by
  have hT := hk.typeIs
  obtain ⟨o, items, n, ho, _, hd, hi⟩ := hk
  unfold ofAClassStatement
  refine wpAny_bind (wpAny_typeOf hT ?_)
  dsimp only
  rw [show (("tuple" : String) == "tuple") = true by decide]
  simp only [if_true, Bool.not_true, Bool.false_eq_true, if_false]
  try refine wpAny_bind (wpAny_pure ?_)
  try simp only [Bool.not_true, Bool.false_eq_true, if_false]
  refine wpAny_bind (m := seqItems? (.ref b)) (wpAny_seqItems ho hd ?_)
  dsimp only
  refine wpAny_bind ?_
  show wpAny _ _ (forIn items _ _) _ _ s
  rw [← Array.forIn_toList]
  refine wpAny_forIn_list _ (fun rest r z => r.1 = none ∧ z = s ∧ ∀ v ∈ rest, carriedByValue v = true) _ ?_ ?_ _ _ ⟨rfl, rfl, hi.byValue⟩
  · rintro v rest r z ⟨hr, rfl, al⟩
    rw [plain_class 7 (al v List.mem_cons_self)]
    refine wpAny_bind (wpAny_pure ?_)
    simp only [Bool.false_eq_true, if_false]
    exact wpAny_pure ⟨rfl, rfl, fun u q => al u (List.mem_cons_of_mem _ q)⟩
  · rintro ⟨r1, r2⟩ z ⟨hr, rfl, _⟩
    simp only at hr
    subst hr
    exact wpAny_pure h
theorem tup_hashes {k : List κ} {b : Addr} {Q : Bool → Shared → Prop} (hk : IsTupleKey knd s.heap k b) (h : ∀ c, Q c s) : wpAny (model P w) A (hashByValue 8 (.ref b)) Q E s := by
  have hT := hk.typeIs
  obtain ⟨o, items, n, ho, _, hd, hi⟩ := hk
  unfold hashByValue
  refine wpAny_bind (wpAny_specialOf hT F.slot_tuple_hash.lookup ?_)
  refine wpAny_bind (m := seqItems? (.ref b)) (wpAny_seqItems ho hd ?_)
  refine wpAny_bind ?_
  show wpAny _ _ (forIn items _ _) _ _ s
  rw [← Array.forIn_toList]
  refine wpAny_forIn_list _ (fun rest r z => r.1 = none ∧ z = s ∧ ∀ v ∈ rest, carriedByValue v = true) _ ?_ ?_ _ _ ⟨rfl, rfl, hi.byValue⟩
  · rintro v rest r z ⟨hr, rfl, al⟩
    obtain ⟨c, e⟩ := plain_hash 7 (al v List.mem_cons_self)
    rw [e]
    refine wpAny_bind (wpAny_pure ?_)
    cases c with
    | true =>
      simp only [Bool.not_true, Bool.false_eq_true, if_false]
      exact wpAny_pure ⟨rfl, rfl, fun u q => al u (List.mem_cons_of_mem _ q)⟩
    | false =>
      simp only [Bool.not_false, if_true]
      exact wpAny_pure (wpAny_pure (h false))
  · rintro ⟨r1, r2⟩ z ⟨hr, rfl, _⟩
    simp only at hr
    subst hr
    exact wpAny_pure (h true)
/-- a search among tuples shows nothing -/
theorem tup_seen {k : List κ} {b : Addr} {Q : Bool → Shared → Prop} (hk : IsTupleKey knd s.heap k b) {ys : List Value} (hy : ∀ y ∈ ys, ∃ k' c, y = Value.ref c ∧ IsTupleKey knd s.heap k' c) (h : Q false s) :
    wpAny (model P w) A (searchCouldBeSeen (.ref b) ys) Q E s := by
  unfold searchCouldBeSeen
  refine wpAny_bind (wpAny_forIn_list _ (fun rest r z => r.1 = none ∧ z = s ∧ ∀ y ∈ rest, ∃ k' c, y = Value.ref c ∧ IsTupleKey knd s.heap k' c) _ ?_ ?_ _ _ ⟨rfl, rfl, hy⟩)
  · rintro v rest r z ⟨hr, rfl, al⟩
    obtain ⟨k', c, rfl, hc⟩ := al v List.mem_cons_self
    have more : ∀ y ∈ rest, ∃ k' c, y = Value.ref c ∧ IsTupleKey knd z.heap k' c := fun u q => al u (List.mem_cons_of_mem _ q)
    dsimp only
    by_cases hv : (b == c || (carriedByValue (.ref b) && carriedByValue (.ref c))) = true
    · exact wp_if_pos hv (wpAny_pure ⟨rfl, rfl, more⟩)
    · refine wp_if_neg hv (wpAny_bind (wpAny_eqIsQuiet_tuple hk ?_))
      simp only [Bool.not_true, Bool.false_eq_true, if_false]
      refine wpAny_bind (wpAny_eqIsQuiet_tuple hc ?_)
      simp only [Bool.not_true, Bool.false_eq_true, if_false]
      refine wpAny_bind (tup_class hk ?_)
      simp only [Bool.false_eq_true, if_false]
      refine wpAny_bind (tup_class hc ?_)
      simp only [Bool.false_eq_true, if_false]
      exact wpAny_pure ⟨rfl, rfl, more⟩
  · rintro ⟨r1, r2⟩ z ⟨hr, rfl, _⟩
    simp only at hr
    subst hr
    exact wpAny_pure h

/-- rows of a set of tuples: hash and address -/
def rowK (knd : KeyKind P w κ) (p : List κ × Addr) : Int × Value := (tupleKeyHash knd p.1, .ref p.2)
/-- a set of the tuples L stands at a -/
structure TG (knd : KeyKind P w κ) (h : Heap) (a : Addr) (L : List (List κ × Addr)) (es : Array (Int × Value)) (t : SetTable) : Prop where
  g : SG w h a es t
  rows : es.toList = L.map (rowK knd)
  tab : TabOk t (L.map fun p => tupleKeyHash knd p.1)
  tup : ∀ p ∈ L, IsTupleKey knd h p.1 p.2
  room : L.length * 5 < t.mask * 3
  few : L.length < 64
variable {a : Addr} {L : List (List κ × Addr)} {es : Array (Int × Value)} {t : SetTable}
theorem TG.size {h : Heap} (R : TG knd h a L es t) : es.size = L.length := by
  have e := congrArg List.length R.rows
  rwa [Array.length_toList, List.length_map] at e
theorem TG.entry {h : Heap} (R : TG knd h a L es t) {i : Nat} {p : List κ × Addr} (e : L[i]? = some p) : es[i]? = some (rowK knd p) := by
  rw [← Array.getElem?_toList, R.rows, List.getElem?_map, e]
  rfl
/-- the way of a hash -/
abbrev pth (m : Nat) (h : Int) (k : Nat) : SetTable.Probe := nth m (runAt m (SetTable.bits h % (m + 1)) (SetTable.bits h)) k
theorem pth_dummy (m : Nat) (h : Int) : ∀ k, (pth m h k).dummy = none := by
  have key : ∀ (n : Nat) (p : SetTable.Probe), p.dummy = none → (nth m p n).dummy = none := by
    intro n
    induction n with
    | zero => exact fun p e => e
    | succ n ih =>
      intro p e
      refine ih (adv m p) ?_
      unfold adv
      split
      · exact e
      · exact e
  exact fun k => key k _ rfl
theorem pth_add (m : Nat) (h : Int) (c q : Nat) : nth m (pth m h c) q = pth m h (c + q) := (nth_add m c _ q).symm

theorem find_from (R : TG knd s.heap a L es t) {x : Addr} {k : List κ} (hx : IsTupleKey knd s.heap k x) (hu : A.units < cLine) {N : Nat} (hN : N < 10 * SetTable.turns t.mask)
    (hf : way t.mask (tupleKeyHash knd k) N ∉ t.place.toList) (hb : ∀ c, c < N → way t.mask (tupleKeyHash knd k) c ∈ t.place.toList) {Q : SetFound → Shared → Prop}
    (yes : (∃ p ∈ L, p.1 = k) → Q (.there none) s) (no : (∀ p ∈ L, p.1 ≠ k) → Q (.free (way t.mask (tupleKeyHash knd k) N) false) s) :
    ∀ (f c : Nat) (st : Option SetTable.Probe), st.getD (t.probeStart (tupleKeyHash knd k)) = pth t.mask (tupleKeyHash knd k) c → c ≤ N → N - c < f →
      (∀ (i : Nat) p, L[i]? = some p → p.1 = k → ∃ c', c ≤ c' ∧ c' < N ∧ t.place.toList[i]? = some (way t.mask (tupleKeyHash knd k) c')) →
      wpAny (model P w) A (setSearchFrom a (.ref x) (tupleKeyHash knd k) true f st) Q E s
  | 0, c, st, _, _, hfu, _ => absurd hfu (Nat.not_lt_zero _)
  | f + 1, c, st, hst, hc, hfu, hre => by
    obtain ⟨o, ep, ho, hex, hd⟩ := R.g.ob
    have gwn : ¬ t.gaveWay = true := by
      unfold SetTable.gaveWay
      rw [mask_odd R.tab.mok]
      decide
    rw [setSearchFrom_succ]
    refine wpAny_bind (wpAny_setState_of ho hd R.g.fits ?_)
    dsimp only
    refine wp_if_neg gwn ?_
    try refine wpAny_bind (wpAny_pure ?_)
    have ej : ∀ q, (nth t.mask (pth t.mask (tupleKeyHash knd k) c) q).j = way t.mask (tupleKeyHash knd k) (c + q) := fun q => congrArg SetTable.Probe.j (pth_add _ _ c q)
    have sp := go_spec t R.tab.ris R.tab.dm (fun i => (es[i]?.map (·.1)).getD 0) (tupleKeyHash knd k) (10 * SetTable.turns t.mask) (N - c) _ (pth_dummy t.mask (tupleKeyHash knd k) c) (by omega)
      (fun q hq => by rw [ej]; exact hb (c + q) (by omega)) (by rw [ej, show c + (N - c) = N by omega]; exact hf)
    have hAt : ∀ (i : Nat) p, L[i]? = some p → (fun i => (es[i]?.map (·.1)).getD 0) i = tupleKeyHash knd p.1 := fun i p hp => by
      show (es[i]?.map (·.1)).getD 0 = _
      rw [R.entry hp]
      rfl
    rcases sp with ⟨q, i, hq, hi, hh, hno, hpr⟩ | ⟨hno, hpr⟩
    · have pr : t.probe (fun i => (es[i]?.map (·.1)).getD 0) (tupleKeyHash knd k) (st.getD (t.probeStart (tupleKeyHash knd k))) = some (.candidate (way t.mask (tupleKeyHash knd k) (c + q)) i (pth t.mask (tupleKeyHash knd k) (c + (q + 1)))) := by
        rw [hst, ← ej, ← pth_add]
        exact hpr
      rw [pr]
      dsimp only
      rw [ej] at hi
      have hil : i < L.length := by
        have h1 : i < t.place.toList.length := (List.getElem?_eq_some_iff.mp hi).1
        have h2 := R.tab.sz
        rw [List.length_map] at h2
        rw [Array.length_toList] at h1
        omega
      obtain ⟨p, hp⟩ : ∃ p, L[i]? = some p := ⟨L[i], List.getElem?_eq_getElem hil⟩
      have hm : p ∈ L := List.mem_of_getElem? hp
      have rest : wpAny (model P w) A (searchRest a (.ref x) (tupleKeyHash knd k) true f es t (way t.mask (tupleKeyHash knd k) (c + q)) i (pth t.mask (tupleKeyHash knd k) (c + (q + 1)))) Q E s := by
        unfold searchRest
        rw [R.entry hp]
        unfold rowK
        dsimp only
        refine wpAny_bind (wpAny_holding (wpAny_eqBool_tuple hu (R.tup p hm) hx (wpAny_bind (wpAny_setState_of ho hd R.g.fits ?_))))
        dsimp only
        by_cases e : p.1 = k
        · exact wp_if_pos (by simp [e]) (wpAny_pure (yes ⟨p, hm, e⟩))
        · refine wp_if_neg (by simp [e]) ?_
          try refine wpAny_bind (wpAny_pure ?_)
          rw [sameMem]
          dsimp only
          have hs : t.slot (way t.mask (tupleKeyHash knd k) (c + q)) = .live i := slot_live R.tab.ris hi
          have en := R.entry hp
          unfold rowK at en
          simp only [if_true, hs, en]
          refine wpAny_bind (wpAny_isSame_ref_self (wpAny_bind (wpAny_pure ?_)))
          simp only [if_true]
          refine wp_if_neg (by simp [e]) ?_
          refine find_from R hx hu hN hf hb yes no f (c + (q + 1)) _ rfl (by omega) (by omega) fun i0 p0 h0 hk0 => ?_
          obtain ⟨c', a1, a2, a3⟩ := hre i0 p0 h0 hk0
          refine ⟨c', ?_, a2, a3⟩
          rcases Nat.lt_trichotomy c' (c + q) with z | z | z
          · refine absurd ((hAt i0 p0 h0).trans (congrArg (tupleKeyHash knd) hk0)) (hno (c' - c) i0 (by omega) ?_)
            rw [ej, show c + (c' - c) = c' by omega]
            exact a3
          · rw [z] at a3
            have s0 := slot_live R.tab.ris a3
            rw [hs] at s0
            injection s0 with s0
            rw [← s0, hp] at h0
            exact absurd ((congrArg Prod.fst (Option.some.inj h0)).trans hk0) e
          · omega
      by_cases hl : t.led = true
      · refine wp_if_neg (by simp [hl]) ?_
        try refine wpAny_bind (wpAny_pure ?_)
        exact rest
      · refine wp_if_pos (by simp [hl]) (wpAny_bind (tup_seen hx (fun y hy => ?_) ?_))
        · obtain ⟨e, he, ee⟩ := List.mem_map.mp hy
          have he1 : e ∈ es ∧ e.1 = tupleKeyHash knd k := by simpa using he
          have he2 : e ∈ es.toList := by simpa using he1.1
          rw [R.rows] at he2
          obtain ⟨p2, hp2, e2⟩ := List.mem_map.mp he2
          exact ⟨p2.1, p2.2, by rw [← ee, ← e2]; rfl, R.tup p2 hp2⟩
        · refine wp_if_neg (by decide) ?_
          try refine wpAny_bind (wpAny_pure ?_)
          exact rest
    · have pr : t.probe (fun i => (es[i]?.map (·.1)).getD 0) (tupleKeyHash knd k) (st.getD (t.probeStart (tupleKeyHash knd k))) = some (.empty (way t.mask (tupleKeyHash knd k) N) none) := by
        have e2 : way t.mask (tupleKeyHash knd k) N = (nth t.mask (pth t.mask (tupleKeyHash knd k) c) (N - c)).j := by
          rw [ej, show c + (N - c) = N by omega]
        rw [hst, e2]
        exact hpr
      rw [pr]
      dsimp only
      refine wpAny_pure (no fun p0 h0 hk0 => ?_)
      obtain ⟨i0, hi0, e0⟩ := List.getElem_of_mem h0
      have h00 : L[i0]? = some p0 := by rw [List.getElem?_eq_getElem hi0, e0]
      obtain ⟨c', a1, a2, a3⟩ := hre i0 p0 h00 hk0
      refine hno (c' - c) i0 (by omega) ?_ ((hAt i0 p0 h00).trans (congrArg (tupleKeyHash knd) hk0))
      rw [ej, show c + (c' - c) = c' by omega]
      exact a3
theorem find_at (R : TG knd s.heap a L es t) {x : Addr} {k : List κ} (hx : IsTupleKey knd s.heap k x) (hu : A.units < cLine) {Q : SetFound → Shared → Prop} (yes : (∃ p ∈ L, p.1 = k) → Q (.there none) s)
    (no : ∀ N, (∀ p ∈ L, p.1 ≠ k) → way t.mask (tupleKeyHash knd k) N ∉ t.place.toList → (∀ c, c < N → way t.mask (tupleKeyHash knd k) c ∈ t.place.toList) → Q (.free (way t.mask (tupleKeyHash knd k) N) false) s) :
    wpAny (model P w) A (setSearch a (.ref x) (tupleKeyHash knd k) true) Q E s := by
  have hroom := R.room
  obtain ⟨N, hN, hf, hb⟩ := R.tab.first (by rw [List.length_map]; omega) (tupleKeyHash knd k)
  have big : N < 100000 := by
    have : 10 * SetTable.turns t.mask ≤ 1420 := by
      unfold SetTable.turns
      rcases R.tab.mok with e | e | e <;> omega
    omega
  unfold setSearch
  refine find_from R hx hu hN hf hb yes (fun n => no N n hf hb) 100000 0 none rfl (Nat.zero_le _) (by omega) fun i p hp hk => ?_
  have hi : (L.map fun p => tupleKeyHash knd p.1)[i]? = some (tupleKeyHash knd k) := by
    rw [List.getElem?_map, hp, ← hk]
    rfl
  have hil : i < t.place.toList.length := by
    have h1 : i < L.length := (List.getElem?_eq_some_iff.mp hp).1
    have h2 := R.tab.sz
    rw [List.length_map] at h2
    rw [Array.length_toList]
    omega
  have hj := List.getElem?_eq_getElem hil
  obtain ⟨c, hc, e⟩ := R.tab.before hf hi hj
  exact ⟨c, Nat.zero_le _, hc, by rw [hj, e]⟩
end
end Sbx
/-! adding tuples of plain keys to a set: the store -/
namespace Sbx
open PySem PySem.Spec PyProof.Rows L2
section
variable {P : Program} {w : World} {A : Around} {E : Value → Shared → Prop} {s : Shared} {κ : Type} [DecidableEq κ] {knd : KeyKind P w κ}
theorem tup_but {h h' : Heap} {k : List κ} {a b : Addr} {o : Obj} {es : Array (Int × Value)} {ep : Nat} {t : SetTable} (hb : IsTupleKey knd h k b) (ho : h.get? a = some o) (hd : o.data = .set es ep t) (hs : Heap.SameBut a h h') : IsTupleKey knd h' k b := by
  obtain ⟨o', items, n, ho', hc, hd', hi⟩ := hb
  refine ⟨o', items, n, (hs.2 b fun e => ?_).trans ho', hc, hd', hi⟩
  subst e
  have q : o' = o := Option.some.inj (ho'.symm.trans ho)
  rw [q, hd] at hd'
  cases hd'
/-- rows in another order -/
theorem rows_order {α β : Type} (f : α → β) (l : List α) (order : List Nat) (hp : order.Perm (List.range l.length)) : ∃ l' : List α, order.filterMap (fun i => (l.map f)[i]?) = l'.map f ∧ l'.Perm l ∧ ∀ (g : α → Int), order.map (fun i => ((l.map g).toArray.getD i 0)) = l'.map g := by
  have hlt : ∀ i ∈ order, i < l.length := fun i hi => List.mem_range.mp (hp.mem_iff.mp hi)
  refine ⟨order.filterMap fun i => l[i]?, ?_, ?_, fun g => ?_⟩
  · clear hp
    induction order with
    | nil => rfl
    | cons i r ih =>
      have hi := hlt i List.mem_cons_self
      rw [List.filterMap_cons_some (b := f l[i]) (by rw [List.getElem?_map, List.getElem?_eq_getElem hi]; rfl), List.filterMap_cons_some (List.getElem?_eq_getElem hi), List.map_cons, ih fun j hj => hlt j (List.mem_cons_of_mem _ hj)]
  · have h1 := hp.filterMap fun i => l[i]?
    have h2 : (List.range l.length).filterMap (fun i => l[i]?) = l := by
      have key : ∀ n, n ≤ l.length → (List.range n).filterMap (fun i => l[i]?) = l.take n := by
        intro n
        induction n with
        | zero => intro _; rfl
        | succ n ih =>
          intro hn
          have hl : n < l.length := hn
          rw [List.range_succ, List.filterMap_append, ih (Nat.le_of_lt hl), List.take_add_one, List.getElem?_eq_getElem hl, List.filterMap_cons_some (List.getElem?_eq_getElem hl)]
          rfl
      rw [key _ (Nat.le_refl _), List.take_length]
    rw [h2] at h1
    exact h1
  · clear hp
    induction order with
    | nil => rfl
    | cons i r ih =>
      have hi := hlt i List.mem_cons_self
      rw [List.filterMap_cons_some (List.getElem?_eq_getElem hi), List.map_cons, List.map_cons, ih fun j hj => hlt j (List.mem_cons_of_mem _ hj)]
      congr 1
      simp [List.getElem?_map, List.getElem?_eq_getElem hi]
variable {a : Addr} {L : List (List κ × Addr)} {es : Array (Int × Value)} {t : SetTable}
theorem relay_tup {o : Obj} {ep : Nat} (ho : s.heap.get? a = some o) (hex : o.ExactSet) (hd : o.data = .set es ep t) (hrows : es.toList = L.map (rowK knd)) (hsz : t.place.size = es.size) (hdm : t.dummies = #[]) (hfl : es.size ≤ t.mask)
    (tup : ∀ p ∈ L, IsTupleKey knd s.heap p.1 p.2) (ld : w.params.followText "set-order" = true ∨ t.led = true) (few : L.length < 64) {wanted M : Nat}
    (hw : SetTable.sizeAbove wanted - 1 = M) (hM : MaskOk M) (hw2 : SetTable.sizeAbove wanted ≤ 128) (hn : L.length * 5 < M * 3) {Q : Unit → Shared → Prop}
    (hQ : ∀ h' L' es' t', Heap.SameBut a s.heap h' → TG knd h' a L' es' t' → L'.Perm L → Q () { s with heap := h' }) : wpAny (model P w) A (setRelay a wanted) Q E s := by
  have hl : es.size = L.length := by
    have e := congrArg List.length hrows
    rwa [Array.length_toList, List.length_map] at e
  have hf : t.fits es.size = true := by
    unfold SetTable.fits SetTable.fill
    rw [hdm, Bool.and_eq_true, beq_iff_eq, decide_eq_true_eq]
    show t.place.size = es.size ∧ t.place.size + 0 ≤ t.mask
    omega
  obtain ⟨t', order, e, hp, T, em, el, epl, ed⟩ := relaid_ok t (hs := es.map (·.1)) (wanted := wanted) hw hM (by rw [Array.size_map, hl]; omega)
  rw [Array.size_map, hl] at hp
  obtain ⟨L2, r1, r2, r3⟩ := rows_order (rowK knd) L order.toList hp
  have ehs : es.map (·.1) = (L.map fun p => tupleKeyHash knd p.1).toArray := by
    apply Array.toList_inj.mp
    rw [Array.toList_map, hrows, List.map_map]
    rfl
  rw [ehs, r3 fun p => tupleKeyHash knd p.1] at T
  have rr : (order.filterMap (es[·]?)).toList = L2.map (rowK knd) := by
    rw [← r1, ← hrows]
    simp
  have s2 : (order.filterMap (es[·]?)).size = es.size := by
    have q := congrArg List.length rr
    rw [Array.length_toList, List.length_map, r2.length_eq] at q
    rw [q, hl]
  rw [setRelay_eq]
  refine wpAny_bind (wpAny_setState_of ho hd hf ?_)
  dsimp only
  refine wp_if_neg (by rw [sizeLine_eq]; omega) ?_
  try refine wpAny_bind (wpAny_pure ?_)
  rw [e]
  dsimp only
  refine wpAny_bind (wp_if_neg (by rw [s2]; simp) ?_)
  try refine wpAny_bind (wpAny_pure ?_)
  refine wpAny_pure ?_
  dsimp only
  refine wpAny_storeSet_of ho hd ?_ (by rw [s2, hl, sizeLine_eq]; omega)
  have sb : Heap.SameBut a s.heap (s.heap.update a (Obj.putSet (order.filterMap (es[·]?)) t')) := Heap.SameBut.update ..
  have hlen := r2.length_eq
  have hplace : t'.place.size = L2.length := by
    have q := T.sz
    rwa [List.length_map] at q
  refine hQ _ L2 (order.filterMap (es[·]?)) t' sb ⟨⟨⟨_, _, store_at ho hd, ⟨hex.1, hex.2.1, hex.2.2⟩, rfl⟩, ?_, by rw [s2, hl]; unfold scanBound; omega, T.ris, by rw [el]; exact ld⟩, rr, T, fun p hpm => tup_but (tup p (r2.mem_iff.mp hpm)) ho hd sb, by rw [hlen, em]; exact hn, by rw [hlen]; exact few⟩ r2
  unfold SetTable.fits SetTable.fill
  rw [ed, Bool.and_eq_true, beq_iff_eq, decide_eq_true_eq]
  show t'.place.size = (order.filterMap (es[·]?)).size ∧ t'.place.size + 0 ≤ t'.mask
  rw [em]
  omega

theorem tup_add (R : TG knd s.heap a L es t) {x : Addr} {k : List κ} (hx : IsTupleKey knd s.heap k x) (hu : A.units < cLine) (hfew : L.length + 1 < 64) {Q : Bool → Shared → Prop}
    (hQ : ∀ b h' L' es' t', Heap.SameBut a s.heap h' → TG knd h' a L' es' t' → ((L' = L ∧ ∃ p ∈ L, p.1 = k) ∨ L'.Perm ((k, x) :: L)) → Q b { s with heap := h' }) :
    wpAny (model P w) A (setAddHashed a (.ref x) (tupleKeyHash knd k)) Q E s := by
  obtain ⟨o, ep, ho, hex, hd⟩ := R.g.ob
  have hsl := R.size
  have hroom := R.room
  unfold setAddHashed
  refine wpAny_holding ?_
  rw [show (100000 : Nat) = 99999 + 1 from rfl, setAddHashedIn_succ]
  refine wpAny_bind (wpAny_setState_of ho hd R.g.fits ?_)
  dsimp only
  refine wp_if_neg (by simp [byScan, Value.scannable]) ?_
  try refine wpAny_bind (wpAny_pure ?_)
  refine wpAny_bind (find_at R hx hu (fun hm => ?_) fun N hm hK hb => ?_)
  · dsimp only
    exact wpAny_pure (hQ false s.heap L es t (Heap.SameBut.refl a s.heap) R (.inl ⟨rfl, hm⟩))
  · dsimp only
    refine wpAny_bind (wpAny_setState_of ho hd R.g.fits ?_)
    dsimp only
    obtain ⟨q1, q2, q3, q4, q5, q6, q7, q8, q9⟩ := R.tab.put hK hb
    generalize hpt : t.put (way t.mask (tupleKeyHash knd k) N) = pt at q1 q3 q4 q5 q6 q7 q8 q9 ⊢
    obtain ⟨t1, p⟩ := pt
    dsimp only at q1 q3 q4 q5 q6 q7 q8 q9 ⊢
    subst q1
    generalize hpp : SetTable.below t.place (way t.mask (tupleKeyHash knd k) N) = p at q2 q3 ⊢
    have hin : (SetTable.insertAt es p (tupleKeyHash knd k, Value.ref x)).toList = (L.take p ++ (k, x) :: L.drop p).map (rowK knd) := by
      rw [SetTable.toList_insertAt, R.rows, List.map_append, List.map_cons, List.map_take, List.map_drop]
      rfl
    have pm := put_perm L p (k, x)
    have hlen : (L.take p ++ (k, x) :: L.drop p).length = L.length + 1 := pm.length_eq
    have hhs : (L.take p ++ (k, x) :: L.drop p).map (fun p => tupleKeyHash knd p.1) = (L.map fun p => tupleKeyHash knd p.1).take p ++ tupleKeyHash knd k :: (L.map fun p => tupleKeyHash knd p.1).drop p := by
      rw [List.map_append, List.map_cons, List.map_take, List.map_drop]
    rw [← hhs] at q3
    have hes : (SetTable.insertAt es p (tupleKeyHash knd k, Value.ref x)).size = L.length + 1 := by
      have e := congrArg List.length hin
      rwa [Array.length_toList, List.length_map, hlen] at e
    generalize SetTable.insertAt es p (tupleKeyHash knd k, Value.ref x) = es1 at hin hes ⊢
    generalize L.take p ++ (k, x) :: L.drop p = L1 at pm hlen q3 hin
    -- behind the store
    have behind : ∀ t2 : SetTable, t2.place = t1.place → t2.dummies = t1.dummies → t2.mask = t1.mask → t2.led = t1.led → t2.fill = t1.fill → TabOk t2 (L1.map fun p => tupleKeyHash knd p.1) →
        wpAny (model P w) A (do storeSet a es1 t2; if (!false && t2.tooFull) = true then do setRelay a (SetTable.grown (es.size + 1)); pure true else pure true) Q E s := fun t2 e1 e2 e3 e4 e5 T2 => by
      refine wpAny_bind (wpAny_storeSet_of ho hd ?_ (by rw [hes, sizeLine_eq]; omega))
      have sb : Heap.SameBut a s.heap (s.heap.update a (Obj.putSet es1 t2)) := Heap.SameBut.update ..
      have ho1 := store_at (es' := es1) (t' := t2) ho hd
      generalize s.heap.update a (Obj.putSet es1 t2) = h1 at sb ho1 ⊢
      have tup1 : ∀ p ∈ L1, IsTupleKey knd h1 p.1 p.2 := fun p hp => by
        rcases List.mem_cons.mp (pm.mem_iff.mp hp) with e | hp
        · rw [e]; exact tup_but hx ho hd sb
        · exact tup_but (R.tup p hp) ho hd sb
      have ld : w.params.followText "set-order" = true ∨ t2.led = true := by rw [e4, q5]; exact R.g.led
      have hsz1 : t2.place.size = es1.size := by
        have q := T2.sz
        rw [List.length_map, hlen] at q
        rw [q, hes]
      have hfl : t2.fill = L.length + 1 := by rw [e5, q9, List.length_map]
      have hm1 : t2.mask = t.mask := e3.trans q4
      by_cases hfu : t2.tooFull = true
      · rw [if_pos (by simp [hfu])]
        have full : (L.length + 1) * 5 ≥ t2.mask * 3 := by
          have q := hfu
          unfold SetTable.tooFull at q
          rw [decide_eq_true_eq, hfl] at q
          exact q
        rw [hsl]
        have two : (t.mask = 7 ∧ L.length = 4) ∨ (t.mask = 31 ∧ L.length = 18) := by
          rcases R.tab.mok with e | e | e
          · left; rw [hm1, e] at full; rw [e] at hroom; exact ⟨e, by omega⟩
          · right; rw [hm1, e] at full; rw [e] at hroom; exact ⟨e, by omega⟩
          · rw [hm1, e] at full; omega
        have go : ∀ M, SetTable.sizeAbove (SetTable.grown (L.length + 1)) - 1 = M → MaskOk M → SetTable.sizeAbove (SetTable.grown (L.length + 1)) ≤ 128 → (L.length + 1) * 5 < M * 3 →
            wpAny (model P w) A (do setRelay a (SetTable.grown (L.length + 1)); pure true) Q E { s with heap := h1 } := fun M m1 m2 m3 m4 => by
          refine wpAny_bind (relay_tup (s := { s with heap := h1 }) ho1 ⟨hex.1, hex.2.1, hex.2.2⟩ rfl hin hsz1 T2.dm (by rw [hes, hm1]; rcases two with ⟨e, e2⟩ | ⟨e, e2⟩ <;> omega) tup1 ld (by rw [hlen]; exact hfew) m1 m2 m3 (by rw [hlen]; exact m4) ?_)
          intro h2 L2 es2 t2 sb2 R2 pm2
          exact wpAny_pure (hQ true h2 L2 es2 t2 (sb.trans sb2) R2 (.inr (pm2.trans pm)))
        rcases two with ⟨_, e2⟩ | ⟨_, e2⟩
        · exact go 31 (by rw [e2, size_20]) (.inr (.inl rfl)) (by rw [e2, size_20]; decide) (by omega)
        · exact go 127 (by rw [e2, size_76]) (.inr (.inr rfl)) (by rw [e2, size_76]; decide) (by omega)
      · rw [if_neg (by simp [hfu])]
        have hlow : L1.length * 5 < t2.mask * 3 := by
          have q := hfu
          unfold SetTable.tooFull at q
          rw [decide_eq_true_eq, hfl] at q
          rw [hlen]
          omega
        refine wpAny_pure (hQ true h1 L1 es1 t2 sb ⟨⟨⟨_, _, ho1, ⟨hex.1, hex.2.1, hex.2.2⟩, rfl⟩, ?_, by rw [hes]; unfold scanBound; omega, T2.ris, ld⟩, hin, T2, tup1, hlow, by rw [hlen]; exact hfew⟩ (.inr pm))
        unfold SetTable.fits SetTable.fill
        rw [T2.dm, Bool.and_eq_true, beq_iff_eq, decide_eq_true_eq]
        show t2.place.size = es1.size ∧ t2.place.size + 0 ≤ t2.mask
        omega
    have same : ∀ c : Bool, TabOk (if c then t1 else { t1 with plain := false }) (L1.map fun p => tupleKeyHash knd p.1) := fun c => by
      cases c with
      | true => exact q3
      | false => exact ⟨q3.ris, q3.dm, q3.sz, q3.mok, q3.bd, q3.reach⟩
    have go : ∀ c : Bool, wpAny (model P w) A (do storeSet a es1 (if c then t1 else { t1 with plain := false }); if (!false && (if c then t1 else { t1 with plain := false }).tooFull) = true then do setRelay a (SetTable.grown (es.size + 1)); pure true else pure true) Q E s := fun c =>
      behind _ (by cases c <;> rfl) (by cases c <;> rfl) (by cases c <;> rfl) (by cases c <;> rfl) (by cases c <;> rfl) (same c)
    by_cases hp : t1.plain = true
    · first
        | (refine wpAny_bind ?_; refine wp_if_pos hp ?_; refine tup_hashes hx fun c => go c)
        | exact wp_if_pos hp (wpAny_bind (tup_hashes hx fun c => go c))
    · first
        | (refine wpAny_bind ?_; refine wp_if_neg hp ?_; exact wpAny_pure (go true))
        | exact wp_if_neg hp (wpAny_bind (wpAny_pure (go true)))
end
end Sbx
/-! sorted(set(xs)), whatever the members are: a maker tells how a member is known and how it is added. -/
namespace Sbx
open PySem PySem.Spec PyProof.Rows L2
structure Maker (P : Program) (w : World) (κ : Type) where
  is : Heap → κ → Value → Prop
  J : Heap → Addr → Mem κ → Prop
  good : κ → Prop
  most : Nat
  strict : Bool
  few : most ≤ 4000
  enc : κ → PyData
  isKeep : ∀ {h h' : Heap} {k : κ} {v : Value}, is h k v → (∀ b o, h.get? b = some o → h'.get? b = some o) → is h' k v
  jKeep : ∀ {h h' : Heap} {a : Addr} {L : Mem κ}, J h a L → (∀ o, h.get? a = some o → h'.get? a = some o) → (∀ p ∈ L, is h' p.1 p.2) → J h' a L
  fresh : ∀ {h : Heap} {a : Addr}, h.get? a = some { cls := .type "set", dict := none, data := .set #[] 0 (.fresh 0 0 (!w.params.followText "set-order")) } → J h a []
  walk : ∀ {h : Heap} {a : Addr} {L : Mem κ}, J h a L → ∃ es t, SG w h a es t ∧ es.toList.map (·.2) = L.map (·.2)
  add : ∀ {A : Around} {E : Value → Shared → Prop} {s : Shared} {a : Addr} {L : Mem κ} {k : κ} {v : Value} {Q : Bool → Shared → Prop}, A.units < cLine → J s.heap a L → is s.heap k v → L.length + 1 < most →
    (∀ b h' L' tk, Heap.SameBut a s.heap h' → s.toks ≤ tk → J h' a L' → ((L' = L ∧ ∃ p ∈ L, p.1 = k) ∨ ((strict = true → ∀ p ∈ L, p.1 ≠ k) ∧ L'.Perm ((k, v) :: L))) → Q b { s with heap := h', toks := tk }) → wpAny (model P w) A (setAdd a v) Q E s
  reads : ∀ {h : Heap} {k : κ} {v : Value}, is h k v → Reads h v (enc k) []
  alike : ∀ k k', PySem.W.alike (enc k) (enc k') = true
  sortable : ∀ bs : Mem κ, (∀ p ∈ bs, good p.1) → PySem.W.Sortable (bs.map fun p => enc p.1)
  depth : ∀ k, (enc k).depth ≤ 1

/-- what the set has from the first i items -/
structure Has (κ : Type) (b : Bool) (ks : Mem κ) (i : Nat) (L : Mem κ) : Prop where
  sub : ∀ p ∈ L, p ∈ ks.take i
  all : ∀ p ∈ ks.take i, ∃ q ∈ L, q.1 = p.1
  len : L.length ≤ i
  nd : b = true → (L.map (·.1)).Nodup
theorem Has.step {κ : Type} {b : Bool} {ks L L' : Mem κ} {i : Nat} {k : κ} {v : Value} (g : Has κ b ks i L) (e : ks[i]? = some (k, v)) (c : (L' = L ∧ ∃ p ∈ L, p.1 = k) ∨ ((b = true → ∀ p ∈ L, p.1 ≠ k) ∧ L'.Perm ((k, v) :: L))) : Has κ b ks (i + 1) L' := by
  have et : ks.take (i + 1) = ks.take i ++ [(k, v)] := by
    rw [List.take_add_one, e]
    rfl
  rcases c with ⟨rfl, hp⟩ | ⟨fr, pm⟩
  · refine ⟨fun p hp => ?_, fun p hp => ?_, Nat.le_succ_of_le g.len, g.nd⟩
    · rw [et]; exact List.mem_append_left _ (g.sub p hp)
    · rw [et] at hp
      rcases List.mem_append.mp hp with z | z
      · exact g.all p z
      · rw [List.mem_singleton.mp z]; assumption
  · refine ⟨fun p hp => ?_, fun p hp => ?_, ?_, fun hb => ?_⟩
    · rw [et]
      rcases List.mem_cons.mp (pm.mem_iff.mp hp) with z | z
      · rw [z]; exact List.mem_append_right _ (List.mem_singleton.mpr rfl)
      · exact List.mem_append_left _ (g.sub p z)
    · rw [et] at hp
      rcases List.mem_append.mp hp with z | z
      · obtain ⟨q, hq, e⟩ := g.all p z
        exact ⟨q, pm.mem_iff.mpr (List.mem_cons_of_mem _ hq), e⟩
      · rw [List.mem_singleton.mp z]
        exact ⟨(k, v), pm.mem_iff.mpr List.mem_cons_self, rfl⟩
    · rw [pm.length_eq, List.length_cons]
      exact Nat.succ_le_succ g.len
    · refine (pm.map (·.1)).nodup_iff.mpr ?_
      rw [List.map_cons]
      refine List.nodup_cons.mpr ⟨fun z => ?_, g.nd hb⟩
      obtain ⟨p, hp, e⟩ := List.mem_map.mp z
      exact fr hb p hp e

section
variable {P : Program} {w : World} {A : Around} {E : Value → Shared → Prop} {s : Shared} {κ : Type}
/-- set.update's loop -/
theorem upd_loop (M : Maker P w κ) {I : Addr} {fp wr : List Addr} {G : Array GenState → Array GenState → Prop} {n : Nat} {Pv : Nat → Value → Prop} {St : Nat → Shared → Prop} {R : Result → Shared → Prop}
    (W : WalksS P w A.in1 I fp wr G n Pv St) (S : Addr) (hSf : S ∉ fp) (ks : Mem κ) (hn : n = ks.length) (hfew : ks.length < M.most) (hval : ∀ i v, Pv i v → ∃ k, ks[i]? = some (k, v))
    (h0 : Heap) (hk : ∀ p ∈ ks, M.is h0 p.1 p.2) (hS0 : h0.get? S = none) (hw0 : ∀ b ∈ wr, h0.get? b = none) (hu : A.in1.units < cLine) :
    ∀ (j i : Nat) (s : Shared), n - i = j → i ≤ n → St i s → (∀ b o, h0.get? b = some o → s.heap.get? b = some o) → (∃ L, M.J s.heap S L ∧ Has κ M.strict ks i L) →
      (∀ s' L, Moved (S :: wr) G s s' → M.J s'.heap S L → Has κ M.strict ks n L → (∀ b o, h0.get? b = some o → s'.heap.get? b = some o) → R (.ok (.ret .none)) s') →
      codeAny (model P w) A (.builtin "set.update.loop" ⟨[.ref S, .ref I], []⟩) R s := by
  have nw : S ∉ wr := fun z => hSf (W.sub _ z)
  have sub : ∀ b ∈ wr, b ∈ S :: wr := fun b z => List.mem_cons_of_mem _ z
  have keep : ∀ {s s' : Shared}, Moved wr G s s' → (∀ b o, h0.get? b = some o → s.heap.get? b = some o) → ∀ b o, h0.get? b = some o → s'.heap.get? b = some o := fun m k b o e =>
    m.heap b o (fun z => by rw [hw0 b z] at e; cases e) (k b o e)
  intro j
  induction j with
  | zero =>
    intro i s hj hi st kp ⟨L, hJ, g⟩ hR
    obtain rfl : i = n := by omega
    refine codeAny_builtin F.entry_set_update_loop ?_
    rw [Around.under_plainId F.plain_set_update_loop _]
    refine wpAny_bind (m := pyNext (.ref I)) (W.done s _ _ st fun s' m => ?_)
    show wpAny _ A.in1 (ret Value.none) _ _ s'
    have kp' := keep m kp
    exact wpAny_pure (hR s' L (m.mono sub) (M.jKeep hJ (fun o e => m.heap S o nw e) fun p hp => M.isKeep (hk p (List.mem_of_mem_take (g.sub p hp))) kp') g kp')
  | succ j ih =>
    intro i s hj hi st kp ⟨L, hJ, g⟩ hR
    have lt : i < n := by omega
    refine codeAny_builtin F.entry_set_update_loop ?_
    rw [Around.under_plainId F.plain_set_update_loop _]
    refine wpAny_bind (m := pyNext (.ref I)) (W.item i s _ _ lt st fun v s' hP st' m => ?_)
    obtain ⟨k, hp⟩ := hval i v hP
    have kp' := keep m kp
    have hJ' : M.J s'.heap S L := M.jKeep hJ (fun o e => m.heap S o nw e) fun p hp => M.isKeep (hk p (List.mem_of_mem_take (g.sub p hp))) kp'
    have hx : M.is s'.heap k v := M.isKeep (hk (k, v) (List.mem_of_getElem? hp)) kp'
    show wpAny _ A.in1 (holding [v] (setAdd S v) >>= _) _ _ s'
    refine wpAny_bind (wpAny_holding (M.add hu hJ' hx (by have := g.len; omega) fun b h' L' tk sb tkl hJ2 c => ?_))
    have kp2 : ∀ b o, h0.get? b = some o → h'.get? b = some o := fun b o e => (sb.2 b (fun z => by rw [z, hS0] at e; cases e)).trans (kp' b o e)
    refine wpAny_pure ⟨plainId_quiet F.plain_set_update_loop _, ih (i + 1) _ (by omega) lt (W.frame _ s' _ _ st' tkl fun b hb o e => ?_) kp2 ⟨L', hJ2, g.step hp c⟩ fun s'' L2 m'' hJ'' g'' kp'' => ?_⟩
    · rw [sb.2 b fun z : b = S => hSf (by rw [← z]; exact hb)]; exact e
    · refine hR s'' L2 (Moved.trans W.gtrans ((m.mono sub).then_heap tkl fun b o hb e => ?_) m'') hJ'' g'' kp''
      rw [sb.2 b fun z : b = S => hb (by rw [z]; exact List.mem_cons_self)]; exact e

/-- set.__init__ of a list, of a tuple -/
theorem init_list {S l : Addr} {items : Array Value} {R : PySem.Fin → Shared → Prop} {Ef : Value → Shared → Prop} {led : Bool} (hS : s.heap.get? S = some { cls := .type "set", dict := none, data := .set #[] 0 (.fresh 0 0 led) }) (hl : s.heap.IsList l items)
    (h : codeAny (model P w) A (.builtin "set.update.loop" ⟨[.ref S, .ref s.heap.objs.size], []⟩) (fun r s' => r = .ok (.ret .none) ∧ R (.done (.ret .none)) s') { s with heap := s.heap.push { cls := .type "list_iterator", data := .fields #[.ref l, .int 0 0] } }) :
    wpAny (model P w) A (Builtin.«set.__init__» ⟨[.ref S, .ref l], []⟩) R Ef s := by
  obtain ⟨⟨ocls, odict, odata, oslots⟩, hol, hcl, nl, hdl⟩ := id hl
  simp only at hcl hdl
  subst hcl; subst hdl
  have hT : s.TypeIs (.ref S) "set" := ⟨_, hS, rfl⟩
  have hsls := F.sub_list_set
  have hslf := F.sub_list_frozenset
  have hne : (Value.type "list" == Value.type "dict") = false := by decide
  unfold Builtin.«set.__init__» noKeywords Builtin.Frozenset.updateFrom
  generalize hPI : pyIter = PI
  wp_walk
  subst hPI
  refine wpAny_pyIter_list hl ?_
  refine wpAny_bind (wpAny_runValue ?_)
  refine codeAny_mono h fun r s2 ⟨e1, q⟩ => ?_
  subst e1
  refine wpAny_pure ?_
  show wpAny _ _ (ret Value.none) _ _ _
  exact wpAny_pure q
theorem init_tuple {S l : Addr} {items : Array Value} {R : PySem.Fin → Shared → Prop} {Ef : Value → Shared → Prop} {led : Bool} (hS : s.heap.get? S = some { cls := .type "set", dict := none, data := .set #[] 0 (.fresh 0 0 led) }) (hl : s.heap.IsTuple l items)
    (h : codeAny (model P w) A (.builtin "set.update.loop" ⟨[.ref S, .ref s.heap.objs.size], []⟩) (fun r s' => r = .ok (.ret .none) ∧ R (.done (.ret .none)) s') { s with heap := s.heap.push { cls := .type "tuple_iterator", data := .fields #[.ref l, .int 0 0] } }) :
    wpAny (model P w) A (Builtin.«set.__init__» ⟨[.ref S, .ref l], []⟩) R Ef s := by
  obtain ⟨⟨ocls, odict, odata, oslots⟩, hol, hcl, nl, hdl⟩ := id hl
  simp only at hcl hdl
  subst hcl; subst hdl
  have hT : s.TypeIs (.ref S) "set" := ⟨_, hS, rfl⟩
  have hsls := F.sub_tuple_set
  have hslf := F.sub_tuple_frozenset
  have hne : (Value.type "tuple" == Value.type "dict") = false := by decide
  unfold Builtin.«set.__init__» noKeywords Builtin.Frozenset.updateFrom
  generalize hPI : pyIter = PI
  wp_walk
  subst hPI
  refine wpAny_pyIter_tuple hl ?_
  refine wpAny_bind (wpAny_runValue ?_)
  refine codeAny_mono h fun r s2 ⟨e1, q⟩ => ?_
  subst e1
  refine wpAny_pure ?_
  show wpAny _ _ (ret Value.none) _ _ _
  exact wpAny_pure q

/-- what stands behind set(..) -/
def SetDone (M : Maker P w κ) (s : Shared) (ks : Mem κ) (Q : Value → Shared → Prop) : Prop := ∀ (h' : Heap) (tk : Nat) (L : Mem κ), M.J h' s.heap.objs.size L → Has κ M.strict ks ks.length L → (∀ b o, s.heap.get? b = some o → h'.get? b = some o) →
  Q (.ref s.heap.objs.size) { s with heap := h', toks := tk }
set_option maxHeartbeats 3200000 in
/-- set(xs), from what set.__init__ does -/
theorem call_set (M : Maker P w κ) {l : Addr} {items : Array Value} (ks : Mem κ) {Q : Value → Shared → Prop} (hh : A.handled = none) (hl : s.heap.IsList l items ∨ s.heap.IsTuple l items) (hit : items.toList = ks.map (·.2))
    (hk : ∀ p ∈ ks, M.is s.heap p.1 p.2) (hfew : ks.length < M.most) (hu : A.units + 3 < cLine) (h : SetDone M s ks Q) : wpAny (model P w) A (call (.type "set") [.ref l]) Q E s := by
  have isz : items.size = ks.length := by
    have q := congrArg List.length hit
    rwa [Array.length_toList, List.length_map] at q
  obtain ⟨c, tl, hmro⟩ := F.called_set.mro
  have hmade := F.called_set.made
  have hsub := F.called_set.sub
  refine wpAny_call (codeAny_of_tree ?_)
  show wpAny _ _ (callAny (.type "set") _) _ _ _
  refine wpAny_pure ⟨Code.quiet_builtin _ (by decide +kernel), codeAny_builtin F.entry_type_call ?_⟩
  rw [Around.under_plain (weight_type_call_type "set" [.ref l] []) rfl]
  have h1 := F.called_set.notType
  have h2 := F.called_set.canCreate
  have hct := F.typeCall_set_1 (.ref l)
  repeat (any_goals (first | assumption | wp_step))
  generalize hnew : s.heap.push { cls := .type "set", dict := none, data := .set #[] 0 (.fresh 0 0 (!w.params.followText "set-order")) } = hp
  have hS : hp.get? s.heap.objs.size = some { cls := .type "set", dict := none, data := .set #[] 0 (.fresh 0 0 (!w.params.followText "set-order")) } := by
    rw [← hnew]; exact Heap.get?_push_size _ rfl
  have kp : ∀ b o, s.heap.get? b = some o → hp.get? b = some o := fun b o e => by
    rw [← hnew]; exact Heap.get?_push_of_some _ e
  have sz : hp.objs.size = s.heap.objs.size + 1 := by rw [← hnew]; exact Heap.size_push ..
  refine codeAny_mono (code_set_led1 (.ref l) (E := E) (Q₁ := fun obj s1 => obj = .ref s.heap.objs.size ∧ s1 = { s with heap := hp }) ⟨rfl, by rw [hnew]⟩) fun r s1 hr => ?_
  cases r with
  | error e => exact hr
  | ok fl =>
    cases fl with
    | ret obj =>
      obtain ⟨rfl, rfl⟩ := hr
      have hT : Shared.TypeIs { s with heap := hp } (.ref s.heap.objs.size) "set" := ⟨_, hS, rfl⟩
      have hli := F.called_set.init.lookup
      have hbi := F.called_set.init.bind (.ref s.heap.objs.size)
      repeat (any_goals (first | assumption | wp_step))
      refine codeAny_mono (codeAny_call_builtin (R := wants (fun r s2 => r = .none ∧ ∃ h' tk L, s2 = { s with heap := h', toks := tk } ∧ M.J h' s.heap.objs.size L ∧ Has κ M.strict ks ks.length L ∧ (∀ b o, s.heap.get? b = some o → h'.get? b = some o)) E)
        F.called_set.init.plain F.entry_set_init (check_set_init_1 hT ?_)) fun r2 s2 hr2 => ?_
      · have hh3 : A.in1.in1.in1.handled = none := by simp [hh]
        have none_of : ∀ b, s.heap.objs.size ≤ b → s.heap.get? b = none := fun b hb => by
          cases q : s.heap.get? b with
          | none => rfl
          | some o => exact absurd (Nat.lt_of_lt_of_le (Heap.lt_size q) hb) (Nat.lt_irrefl _)
        have hval : ∀ (i : Nat) (v : Value), items[i]? = some v → ∃ k, ks[i]? = some (k, v) := fun i v hv => by
          have q : items.toList[i]? = some v := by rw [Array.getElem?_toList]; exact hv
          rw [hit, List.getElem?_map] at q
          cases hq : ks[i]? with
          | none => rw [hq] at q; cases q
          | some p =>
            rw [hq] at q
            obtain ⟨k, u⟩ := p
            exact ⟨k, by rw [show u = v from Option.some.inj q]⟩
        have loop : ∀ (ob : Obj) {St : Nat → Shared → Prop} {G : Array GenState → Array GenState → Prop}, l < s.heap.objs.size → WalksS P w A.in1.in1.in1 hp.objs.size [hp.objs.size, l] [hp.objs.size] G items.size (fun i v => items[i]? = some v) St →
            (∀ {x y : Shared}, Moved (s.heap.objs.size :: [hp.objs.size]) G x y → y.gens = x.gens) →
            St 0 { s with heap := hp.push ob } →
            codeAny (model P w) A.in1.in1 (.builtin "set.update.loop" ⟨[.ref s.heap.objs.size, .ref hp.objs.size], []⟩)
              (fun r s2 => r = .ok (.ret .none) ∧ ∃ h' tk L, s2 = { s with heap := h', toks := tk } ∧ M.J h' s.heap.objs.size L ∧ Has κ M.strict ks ks.length L ∧ (∀ b o, s.heap.get? b = some o → h'.get? b = some o)) { s with heap := hp.push ob } := fun ob St G hlS W hg st0 => by
          refine upd_loop M W s.heap.objs.size ?_ ks isz hfew hval s.heap hk (none_of _ (Nat.le_refl _)) (fun b hb => none_of b (by rw [List.mem_singleton.mp hb, sz]; exact Nat.le_succ _)) hu (items.size - 0) 0 _ (by omega) (Nat.zero_le _) st0
            (fun b o e => Heap.get?_push_of_some _ (kp b o e)) ⟨[], M.fresh (Heap.get?_push_of_some _ hS), fun p hp => (by cases hp), fun p hp => (by simp at hp), Nat.le_refl _, fun _ => List.nodup_nil⟩ fun s' L m hJ g k => ?_
          · rw [sz]
            simp only [List.mem_cons, List.mem_singleton, List.not_mem_nil, or_false, not_or]
            exact ⟨Nat.ne_of_lt (Nat.lt_succ_self _), Nat.ne_of_gt hlS⟩
          · obtain ⟨h', g2, d', tk', os'⟩ := s'
            have eg : g2 = s.gens := hg m
            have ed : d' = s.drawn := m.drawn
            have eo : os' = s.os := m.os
            subst eg; subst ed; subst eo
            rw [isz] at g
            exact ⟨rfl, h', tk', L, rfl, hJ, g, k⟩
        rcases hl with hl | hl
        · have hl1 : hp.IsList l items := by rw [← hnew]; exact hl.push _
          have hlS : l < s.heap.objs.size := by obtain ⟨_, e, _⟩ := hl; exact Heap.lt_size e
          have hneI : l ≠ hp.objs.size := by rw [sz]; exact Nat.ne_of_lt (Nat.lt_succ_of_lt hlS)
          refine init_list (s := { s with heap := hp }) hS hl1 ?_
          refine codeAny_mono (loop _ hlS ((Walks.list hh3 _ l hneI items).toS) (fun m => m.gens) ⟨⟨_, Heap.get?_push_size _ rfl, rfl, rfl⟩, hl1.push _⟩) fun r s2 ⟨e1, h', tk, L, e2, hJ, g, k⟩ => ?_
          exact ⟨e1, rfl, h', tk, L, e2, hJ, g, k⟩
        · have hl1 : hp.IsTuple l items := by rw [← hnew]; exact hl.push _
          have hlS : l < s.heap.objs.size := by obtain ⟨_, e, _⟩ := hl; exact Heap.lt_size e
          have hneI : l ≠ hp.objs.size := by rw [sz]; exact Nat.ne_of_lt (Nat.lt_succ_of_lt hlS)
          refine init_tuple (s := { s with heap := hp }) hS hl1 ?_
          refine codeAny_mono (loop _ hlS ((Walks.tuple hh3 _ l hneI items).toS) (fun m => m.gens) ⟨⟨_, Heap.get?_push_size _ rfl, rfl, rfl⟩, hl1.push _⟩) fun r s2 ⟨e1, h', tk, L, e2, hJ, g, k⟩ => ?_
          exact ⟨e1, rfl, h', tk, L, e2, hJ, g, k⟩
      · cases r2 with
        | error e => exact hr2
        | ok fl2 =>
          cases fl2 with
          | ret r =>
            obtain ⟨rfl, h', tk, L, rfl, hJ, g, k⟩ := hr2
            repeat (any_goals (first | assumption | wp_step))
            exact h _ _ _ hJ g k
          | _ => exact hr2.elim
    | _ => exact hr.elim
end
end Sbx
/-! sorted(set(xs)): the order, the three makers, the rule -/
namespace Sbx
open PySem PySem.Spec PyProof.Rows L2
theorem perm_map {α β : Type} (f : α → β) : ∀ {vs : List β} {l : List α}, vs.Perm (l.map f) → ∃ l' : List α, l'.Perm l ∧ vs = l'.map f := by
  intro vs l h
  generalize hm : l.map f = m at h
  induction h generalizing l with
  | nil =>
    cases l with
    | nil => exact ⟨[], .nil, rfl⟩
    | cons a r => cases hm
  | @cons x l1 l2 h ih =>
    cases l with
    | nil => cases hm
    | cons a r =>
      rw [List.map_cons] at hm
      injection hm with e1 e2
      obtain ⟨l', p, e⟩ := ih e2
      exact ⟨a :: l', p.cons a, by rw [List.map_cons, e1, e]⟩
  | swap x y l1 =>
    cases l with
    | nil => cases hm
    | cons a r =>
      cases r with
      | nil => cases hm
      | cons b r =>
        rw [List.map_cons, List.map_cons] at hm
        injection hm with e1 e2
        injection e2 with e2 e3
        exact ⟨b :: a :: r, .swap _ _ _, by rw [List.map_cons, List.map_cons, e1, e2, e3]⟩
  | trans _ _ ih1 ih2 =>
    obtain ⟨l', p, e⟩ := ih2 hm
    obtain ⟨l'', p', e'⟩ := ih1 e.symm
    exact ⟨l'', p'.trans p, e'⟩
theorem each_snd {κ : Type} : ∀ (L : Mem κ), PySem.W.EachIs (fun v (p : κ × Value) => v = p.2) (L.map (·.2)) L
  | [] => .nil
  | p :: L => .cons rfl (each_snd L)
theorem each_out {κ : Type} : ∀ {vs : List Value} {L : Mem κ}, PySem.W.EachIs (fun v (p : κ × Value) => v = p.2) vs L → vs = L.map (·.2)
  | _, _, .nil => rfl
  | _, _, .cons e t => by rw [List.map_cons, e, each_out t]
section
variable {P : Program} {w : World} {A : Around} {E : Value → Shared → Prop} {s : Shared} {κ : Type}
theorem sorted_of (M : Maker P w κ) {a : Addr} {L : Mem κ} {Q : Value → Shared → Prop} (hJ : M.J s.heap a L) (hi : ∀ p ∈ L, M.is s.heap p.1 p.2) (hgd : ∀ p ∈ L, M.good p.1) (hl : L.length ≤ 4000) (hh : A.handled = none) (hu : A.units + 4 < cLine)
    (hQ : ∀ s' p (L' : Mem κ) (c : Nat), (∀ b o, s.heap.get? b = some o → s'.heap.get? b = some o) → s'.gens = s.gens → s'.os = s.os → s.heap.objs.size ≤ p →
      s'.heap.get? p = some (seqObj "list" (L'.map (·.2)).toArray c) → L'.Perm L → Q (.ref p) s') :
    wpAny (model P w) A (call (.builtin "sorted") [.ref a]) Q E s := by
  obtain ⟨es, t, g, he⟩ := M.walk hJ
  obtain ⟨⟨o, ep, ho, hex, hd⟩, hf, hb, hr, hl0⟩ := g
  refine Calls.call_function_entry kind_sorted plain_sorted entry_sorted (args_sorted1 _) ?_
  unfold Builtin.«sorted»
  refine wpAny_bind (m := checkCount "sorted" 1 1 _) (wpAny_pure ?_)
  refine wpAny_bind (collect_set (A := A.in1) hh ⟨o, ho, hex.1, hd⟩ hf hb hr hl0 fun s1 vs k1 hz g1 o1 pm => ?_)
  rw [he] at pm
  obtain ⟨L1, p1, rfl⟩ := perm_map (fun p : κ × Value => p.2) pm
  have hlen : L1.length ≤ 4000 := by rw [p1.length_eq]; exact hl
  refine wpAny_bind (wpAny_newList ?_ (by rw [List.length_map, sizeLine_eq]; omega))
  have hoL : (s1.heap.push (seqObj "list" (L1.map (·.2)).toArray 0)).get? s1.heap.objs.size = some (seqObj "list" (L1.map (·.2)).toArray 0) := Heap.get?_push_size _ rfl
  have keep : ∀ b u, s.heap.get? b = some u → (s1.heap.push (seqObj "list" (L1.map (·.2)).toArray 0)).get? b = some u := fun b u e => Heap.get?_push_of_some _ (k1 b u e)
  have rd : ∀ p ∈ L1, Reads (s1.heap.push (seqObj "list" (L1.map (·.2)).toArray 0)) p.2 (M.enc p.1) [] := fun p hp => M.reads (M.isKeep (hi p (p1.mem_iff.mp hp)) keep)
  have er : ∀ L2 : Mem κ, (∀ p ∈ L2, p ∈ L1) → PySem.W.EachIs (fun v (p : κ × Value) => ∃ as, Reads (s1.heap.push (seqObj "list" (L1.map (·.2)).toArray 0)) v (M.enc p.1) as ∧ s1.heap.objs.size ∉ as) (L2.map (·.2)) L2 := by
    intro L2
    induction L2 with
    | nil => exact fun _ => .nil
    | cons p L2 ih => exact fun hs => .cons ⟨[], rd p (hs p List.mem_cons_self), by simp⟩ (ih fun q hq => hs q (List.mem_cons_of_mem _ hq))
  refine wpAny_bind (wpAny_holding (PySem.W.list_sort_data (R := fun v (p : κ × Value) => v = p.2) (enc := fun p => M.enc p.1) (bs := L1) (s := { s1 with heap := s1.heap.push (seqObj "list" (L1.map (·.2)).toArray 0) }) hoL (each_snd L1) (er L1 fun _ h => h)
    (PySem.W.AllAlike.of fun b b' => M.alike _ _) (M.sortable L1 fun p hp => hgd p (p1.mem_iff.mp hp)) (by rw [sizeLine_eq]; omega) (fun b _ => by have := M.depth b.1; show A.units + 1 + 1 + (M.enc b.1).depth < cLine; omega) fun out _ ho2 => ?_))
  obtain rfl := each_out ho2
  obtain ⟨c, hc⟩ := sortedHeap_at (vs := L1.map (·.2)) (out := ((L1.mergeSort (PySem.W.dataLe false fun p => M.enc p.1)).map (·.2)).toArray) hoL
  refine wpAny_pure ⟨_, rfl, hQ _ s1.heap.objs.size (L1.mergeSort (PySem.W.dataLe false fun p => M.enc p.1)) c (fun b u e => ?_) g1 o1 hz hc ((List.mergeSort_perm _ _).trans p1)⟩
  have lt := Heap.lt_size (k1 b u e)
  show (sortedHeap (s1.heap.push (seqObj "list" (L1.map (·.2)).toArray 0)) s1.heap.objs.size _ _).get? b = some u
  rw [sortedHeap_old (Nat.ne_of_lt lt) (by rw [size_push']; exact Nat.lt_succ_of_lt lt)]
  exact keep b u e
end

/-! ### the makers -/
section
variable {P : Program} {w : World}
/-- members that are scanned: numbers, texts -/
structure ScanJ {κ : Type} [DecidableEq κ] (knd : KeyKind P w κ) (h : Heap) (a : Addr) (L : Mem κ) : Prop where
  ex : ∃ es t, SG w h a es t ∧ es.toList = L.map fun p => (knd.hash p.1, p.2)
  is : ∀ p ∈ L, knd.is p.1 p.2 = true ∧ p.2.scannable = true
def scanMaker {κ : Type} [DecidableEq κ] (knd : KeyKind P w κ) (enc : κ → PyData) (hs : ∀ k v, knd.is k v = true → v.scannable = true) (hr : ∀ h k v, knd.is k v = true → Reads h v (enc k) []) (hal : ∀ k k', PySem.W.alike (enc k) (enc k') = true)
    (hso : ∀ k, enc k ≠ .none ∧ ∀ xs, enc k ≠ .tuple xs) (hde : ∀ k, (enc k).depth ≤ 1) : Maker P w κ where
  is := fun _ k v => knd.is k v = true
  J := ScanJ knd
  good := fun _ => True
  most := 4000
  strict := true
  few := Nat.le_refl _
  enc := enc
  isKeep := fun x _ => x
  jKeep := fun ⟨⟨es, t, g, e⟩, i⟩ k _ => ⟨⟨es, t, g.at k, e⟩, i⟩
  fresh := fun e => ⟨⟨_, _, sg_fresh e, rfl⟩, fun p hp => (by cases hp)⟩
  walk := fun ⟨⟨es, t, g, e⟩, i⟩ => ⟨es, t, g, by rw [e, List.map_map]; rfl⟩
  add := fun {A E s a L k v Q} hu hJ hk hm hQ => by
    obtain ⟨⟨es, t, g, e⟩, i⟩ := hJ
    have sz : es.size = L.length := by
      have q := congrArg List.length e
      rwa [Array.length_toList, List.length_map] at q
    have el : ElemsOf knd es.toList := fun x hx => by
      rw [e] at hx
      obtain ⟨p, hp, rfl⟩ := List.mem_map.mp hx
      exact ⟨⟨p.1, (i p hp).1, rfl⟩, (i p hp).2⟩
    unfold setAdd
    refine wpAny_holding (wpAny_bind (knd.pyHash hk ?_))
    refine scan_add (s := { s with toks := s.toks + 1 }) (g.at fun o q => q) el hk (hs k v hk) (by unfold scanBound; omega) fun b h' es' t' sb g' c => ?_
    rcases c with ⟨rfl, x, hx, px⟩ | ⟨fr, pm⟩
    · rw [e] at hx
      obtain ⟨p, hp, rfl⟩ := List.mem_map.mp hx
      exact hQ b h' L (s.toks + 1) sb (Nat.le_succ _) ⟨⟨es', t', g', e⟩, i⟩ (.inl ⟨rfl, p, hp, knd.inj _ _ _ (i p hp).1 px⟩)
    · rw [e] at pm
      have pm2 : es'.toList.Perm (((k, v) :: L).map fun p => (knd.hash p.1, p.2)) := pm
      obtain ⟨L', q, e'⟩ := perm_map (fun p : κ × Value => (knd.hash p.1, p.2)) pm2
      refine hQ b h' L' (s.toks + 1) sb (Nat.le_succ _) ⟨⟨es', t', g', e'⟩, fun p hp => ?_⟩ (.inr ⟨fun _ p hp ep => ?_, q⟩)
      rcases List.mem_cons.mp (q.mem_iff.mp hp) with z | z
      · rw [z]; exact ⟨hk, hs k v hk⟩
      · exact i p z
      · have q2 := fr (knd.hash p.1, p.2) (by rw [e]; exact List.mem_map.mpr ⟨p, hp, rfl⟩)
        rw [← ep, (i p hp).1] at q2
        cases q2
  reads := fun x => hr _ _ _ x
  alike := hal
  sortable := fun bs _ => PySem.W.Sortable.others fun b => hso b.1
  depth := hde
def intMaker (P : Program) (w : World) : Maker P w Int := scanMaker (intKind P w) .int (fun k v h => by obtain ⟨t, rfl⟩ := Value.isInt_shape (k := k) h; rfl) (fun h k v e => by obtain ⟨t, rfl⟩ := Value.isInt_shape (k := k) e; exact .int _ _)
  (fun k k' => by simp [PySem.W.alike]) (fun k => ⟨fun e => (nomatch e), fun xs e => (nomatch e)⟩) (fun k => by simp [PyData.depth])
def strMaker (P : Program) (w : World) : Maker P w Str := scanMaker (strKind P w) .str (fun k v h => by obtain ⟨t, rfl⟩ := Value.isStrOf_shape (x := k) h; rfl) (fun h k v e => by obtain ⟨t, rfl⟩ := Value.isStrOf_shape (x := k) e; exact .str _ _)
  (fun k k' => by simp [PySem.W.alike]) (fun k => ⟨fun e => (nomatch e), fun xs e => (nomatch e)⟩) (fun k => by simp [PyData.depth])

/-- tuples of texts -/
def tupIs (P : Program) (w : World) (h : Heap) (k : List Str) (v : Value) : Prop := ∃ c, v = .ref c ∧ IsTupleKey (strKind P w) h k c
structure TupJ (P : Program) (w : World) (h : Heap) (a : Addr) (L : Mem (List Str)) : Prop where
  ex : ∃ (L1 : List (List Str × Addr)) (es : _) (t : _), TG (strKind P w) h a L1 es t ∧ L = L1.map fun p => (p.1, Value.ref p.2)
theorem alike_strs : ∀ xs ys : List Str, PySem.W.alikeAll (xs.map .str) (ys.map .str) = true
  | [], _ => by simp [PySem.W.alikeAll]
  | _ :: _, [] => by simp [PySem.W.alikeAll]
  | x :: xs, y :: ys => by
    show PySem.W.alikeAll (.str x :: xs.map .str) (.str y :: ys.map .str) = true
    rw [PySem.W.alikeAll, alike_strs xs ys]
    simp [PySem.W.alike]
theorem depth_strs : ∀ xs : List Str, PyData.depthAll (xs.map .str) = 0
  | [] => by simp [PyData.depthAll]
  | x :: xs => by
    show PyData.depthAll (.str x :: xs.map .str) = 0
    rw [PyData.depthAll, depth_strs xs]
    simp [PyData.depth]
theorem reads_strs {h : Heap} : ∀ {xs : List Str} {vs : List Value}, ItemsAre (strKind P w) xs vs → ReadsAll h vs (xs.map .str) []
  | _, _, .nil => .nil
  | _, _, .cons (k := k) e t => by
    obtain ⟨tk, rfl⟩ := Value.isStrOf_shape (x := k) e
    exact .cons (as := []) (bs := []) (.str _ _) (reads_strs t)
def tupMaker (P : Program) (w : World) : Maker P w (List Str) where
  is := tupIs P w
  J := TupJ P w
  good := fun k => k ≠ []
  most := 64
  strict := false
  few := by decide
  enc := fun k => .tuple (k.map .str)
  isKeep := fun ⟨c, e, o, i, n, ho, r⟩ k => ⟨c, e, o, i, n, k _ _ ho, r⟩
  jKeep := fun {h h' a L} ⟨⟨L1, es, t, g, e⟩⟩ k is => ⟨⟨L1, es, t, ⟨g.g.at k, g.rows, g.tab, fun p hp => by
    obtain ⟨c, e1, e2⟩ := is (p.1, .ref p.2) (by rw [e]; exact List.mem_map.mpr ⟨p, hp, rfl⟩)
    injection e1 with e1
    rw [e1]; exact e2, g.room, g.few⟩, e⟩⟩
  fresh := fun e => ⟨⟨[], #[], _, ⟨sg_fresh e, rfl, ⟨List.Pairwise.nil, rfl, rfl, .inl rfl, fun x hx => (by cases hx), fun i h j hi => (by simp at hi)⟩, fun p hp => (by cases hp), by show 0 * 5 < 7 * 3; decide, by show 0 < 64; decide⟩, rfl⟩⟩
  walk := fun ⟨⟨L1, es, t, g, e⟩⟩ => ⟨es, t, g.g, by rw [e, g.rows, List.map_map, List.map_map]; rfl⟩
  add := fun {A E s a L k v Q} hu hJ hk hm hQ => by
    obtain ⟨⟨L1, es, t, g, rfl⟩⟩ := hJ
    obtain ⟨c, rfl, hx⟩ := hk
    rw [List.length_map] at hm
    unfold setAdd
    refine wpAny_holding (wpAny_bind (wpAny_pyHash_tuple hu hx ?_))
    refine tup_add (s := { s with toks := s.toks + (k.length + 1) }) ⟨g.g.at fun o q => q, g.rows, g.tab, g.tup, g.room, g.few⟩ hx hu hm fun b h' L' es' t' sb g' cs => ?_
    refine hQ b h' (L'.map fun p => (p.1, Value.ref p.2)) _ sb (Nat.le_add_right _ _) ⟨⟨L', es', t', g', rfl⟩⟩ ?_
    rcases cs with ⟨rfl, p, hp, e⟩ | pm
    · exact .inl ⟨rfl, (p.1, .ref p.2), List.mem_map.mpr ⟨p, hp, rfl⟩, e⟩
    · exact .inr ⟨fun z => Bool.noConfusion z, pm.map _⟩
  reads := fun {h k v} ⟨c, e, o, i, n, ho, hc, hd, hi⟩ => by
    subst e
    exact .tuple ho hc hd (reads_strs hi)
  alike := fun k k' => by simp only [PySem.W.alike]; exact alike_strs k k'
  sortable := fun bs hg => .inl fun d hd => by
    obtain ⟨b, hb, rfl⟩ := List.mem_map.mp hd
    cases e : b.1 with
    | nil => exact absurd e (hg b hb)
    | cons x r => exact ⟨.str x, r.map .str, rfl⟩
  depth := fun k => by
    show PyData.depth (.tuple (k.map .str)) ≤ 1
    simp only [PyData.depth]
    rw [depth_strs]
    decide
end
end Sbx
/-! the rules of sorted(set(e)) -/
namespace Sbx
open PySem PySem.Spec PyProof.Rows L2
section
variable {X : Cx} {pins : List (Addr × Obj)} {σ : L2.St} {H : Hp} {s : Shared} {κ : Type}
theorem ss_run (M : Maker X.prog X.w κ) (hc : X.calm = true) (hu : X.A.units + 64 < cLine) {l : Addr} {items : Array Value} (ks : Mem κ) (I : Inv X pins σ H s) (hl : s.heap.IsList l items ∨ s.heap.IsTuple l items) (hit : items.toList = ks.map (·.2))
    (hk : ∀ p ∈ ks, M.is s.heap p.1 p.2) (hg : ∀ p ∈ ks, M.good p.1) (hfew : ks.length < M.most) (vOf : κ × Value → V) (hv : ∀ p ∈ ks, RelV (vOf p) p.2) {Q : VK}
    (h : ∀ (L : Mem κ) (p : Addr), (∀ q ∈ L, q ∈ ks) → (∀ q ∈ ks, ∃ r ∈ L, r.1 = q.1) → L.length ≤ ks.length → (M.strict = true → (L.map (·.1)).Nodup) → H p = none → Q (.ref p) (upd H p (.lst (L.map vOf)))) :
    wpAny (model X.prog X.w) X.A (call (.type "set") [.ref l]) (fun v s1 => wpAny (model X.prog X.w) X.A (call (.builtin "sorted") [v]) (EP X pins σ Q) X.xe s1) X.xe s := by
  refine call_set M ks (I.ok.hd hc) hl hit hk hfew (by omega) fun h' tk L hJ g k => ?_
  have et : ks.take ks.length = ks := List.take_length
  have I2 : Inv X pins σ H { s with heap := h', toks := tk } := I.kept k
  have sub : ∀ p ∈ L, p ∈ ks := fun p hp => et ▸ g.sub p hp
  have few4 := M.few
  refine sorted_of M (s := { s with heap := h', toks := tk }) hJ (fun p hp => M.isKeep (hk p (sub p hp)) k) (fun p hp => hg p (sub p hp)) (by have := g.len; omega) (I.ok.hd hc) (by omega) fun s' p L' c k2 g2 o2 hp hget pm => ?_
  have lk : ∀ q ∈ L', q ∈ ks := fun q hq => sub q (pm.mem_iff.mp hq)
  have hlen : L'.length ≤ ks.length := by rw [pm.length_eq]; exact g.len
  have hz : (L'.map vOf).length ≤ sizeLine := by rw [List.length_map, sizeLine_eq]; omega
  have hn : H p = none := I2.hok.fresh hp
  have hvs : ∀ l : Mem κ, (∀ q ∈ l, q ∈ ks) → Vals (l.map vOf) (l.map (·.2)) := by
    intro l
    induction l with
    | nil => exact fun _ => .nil
    | cons q r ih => exact fun hs => .cons (hv q (hs q List.mem_cons_self)) (ih fun x hx => hs x (List.mem_cons_of_mem _ hx))
  have J : Inv X pins σ (upd H p (.lst (L'.map vOf))) { s with heap := s'.heap, gens := s'.gens, drawn := s'.drawn, toks := s'.toks } :=
    Inv.call (s := { s with heap := h', toks := tk }) (h' := s'.heap) (g' := s'.gens) (t' := s'.toks) (d' := s'.drawn) I2 (ch := []) (Un.laid k2 hp hn) (I2.hok.laid k2 hp ⟨hz, L'.map (·.2), c, hvs L' lk, hget⟩) (by rw [g2]; exact I2.bare) (fun _ z => (nomatch z))
  have e : s' = { s with heap := s'.heap, gens := s'.gens, drawn := s'.drawn, toks := s'.toks } := by
    cases s'
    cases s
    cases o2
    rfl
  rw [e]
  refine ⟨.ref p, _, J, rfl, h L' p lk (fun q hq => ?_) hlen (fun hb => (pm.map (·.1)).nodup_iff.mpr (g.nd hb)) hn⟩
  obtain ⟨r, hr, er⟩ := g.all q (et.symm ▸ hq)
  exact ⟨r, pm.mem_iff.mpr hr, er⟩

/-- the call sorted(set(a)), from its run -/
theorem ss_pe {a : Expr} {p p2 q pos : Pos} {σ : L2.St} {H : Hp} {Q : VK} {R : V → Hp → Prop} (hg : Gl X "sorted") (hm : X.mg "sorted" = none) (hg2 : Gl X "set") (hm2 : X.mg "set" = none) {s : Shared}
    (na : starEach [a] X.env = (false, eval a X.env) :: starEach [] X.env)
    (ha : wpAny (model X.prog X.w) X.A (eval a X.env) (EP X pins σ R) X.xe s)
    (run : ∀ s1 v x H1, Inv X pins σ H1 s1 → RelV x v → R x H1 → wpAny (model X.prog X.w) X.A (call (.type "set") [v]) (fun v s1 => wpAny (model X.prog X.w) X.A (call (.builtin "sorted") [v]) (EP X pins σ Q) X.xe s1) X.xe s1) (I : Inv X pins σ H s) :
    wpAny (model X.prog X.w) X.A (eval (.Call (.Name "sorted" p) [.Call (.Name "set" p2) [a] [] q] [] pos) X.env) (EP X pins σ Q) X.xe s := by
  refine Call_ (ld_blt I hg hm boot_sorted ?_)
  refine PyProof.Rows.callWith_builtin1 (PyProof.Rows.args_cons ?_ rfl) rfl rfl
  refine Call_ (ld_blt I hg2 hm2 boot_set ?_)
  refine PyProof.Rows.callWith_type1 (PyProof.Rows.args_cons (thn ha fun v s1 ⟨x, H1, I1, r1, q1⟩ => PyProof.Rows.args_nil ?_) na) na rfl
  exact thn (run s1 v x H1 I1 r1 q1) fun u s2 h2 => PyProof.Rows.args_nil h2

theorem int_vals : ∀ {ns : List Int} {us : List Value}, Vals (ns.map V.int) us → ∃ ks : Mem Int, ks.map (·.1) = ns ∧ ks.map (·.2) = us ∧ ∀ p ∈ ks, ∃ t, p.2 = Value.int p.1 t
  | [], _, .nil => ⟨[], rfl, rfl, fun p hp => (by cases hp)⟩
  | n :: ns, u :: us, .cons r t => by
    obtain ⟨ks, e1, e2, h⟩ := int_vals t
    obtain ⟨tk, e⟩ := r
    refine ⟨(n, u) :: ks, by rw [List.map_cons, e1], by rw [List.map_cons, e2], fun p hp => ?_⟩
    rcases List.mem_cons.mp hp with z | z
    · rw [z]; exact ⟨tk, e⟩
    · exact h p z
theorem str_vals : ∀ {ns : List Str} {us : List Value}, Vals (ns.map V.str) us → ∃ ks : Mem Str, ks.map (·.1) = ns ∧ ks.map (·.2) = us ∧ ∀ p ∈ ks, ∃ t, p.2 = Value.str p.1 t
  | [], _, .nil => ⟨[], rfl, rfl, fun p hp => (by cases hp)⟩
  | n :: ns, u :: us, .cons r t => by
    obtain ⟨ks, e1, e2, h⟩ := str_vals t
    obtain ⟨tk, e⟩ := r
    refine ⟨(n, u) :: ks, by rw [List.map_cons, e1], by rw [List.map_cons, e2], fun p hp => ?_⟩
    rcases List.mem_cons.mp hp with z | z
    · rw [z]; exact ⟨tk, e⟩
    · exact h p z
/-- a list or a tuple of the heap, for set(..) -/
theorem seq_of {l : Addr} {xs : List V} {H1 : Hp} {s1 : Shared} (I : Inv X pins σ H1 s1) (h : SqL X.K H1 l xs ∨ SqT X.K H1 l xs) : ∃ its : List Value, Vals xs its ∧ (s1.heap.IsList l its.toArray ∨ s1.heap.IsTuple l its.toArray) := by
  rcases h with h | h
  · obtain ⟨its, r, pl, _⟩ := I.list h
    exact ⟨its, r, .inl pl.isList⟩
  · obtain ⟨its, r, pl, _⟩ := I.tuple h
    exact ⟨its, r, .inr pl⟩
def tSSInt (K : PySem.W.Frag) (ta : TE) : TE := fun σ H Q => ta σ H fun x H1 => ∃ (l : Addr) (ns : List Int), x = .ref l ∧ (SqL K H1 l (ns.map V.int) ∨ SqT K H1 l (ns.map V.int)) ∧ ns.length < 4000 ∧
  ∀ (ms : List Int) (p : Addr), (∀ n, n ∈ ms ↔ n ∈ ns) → ms.length ≤ ns.length → ms.Nodup → H1 p = none → Q (.ref p) (upd H1 p (.lst (ms.map V.int)))
theorem pe_ssInt {a : Expr} {ta : TE} {p p2 q pos : Pos} (hc : X.calm = true) (hu : X.A.units + 64 < cLine) (hm : X.mg "sorted" = none) (hm2 : X.mg "set" = none) (ha : PE X a ta) (hg : Gl X "sorted" := by rfl) (hg2 : Gl X "set" := by rfl)
    (na : starEach [a] X.env = (false, eval a X.env) :: starEach [] X.env := by rfl) : PE X (.Call (.Name "sorted" p) [.Call (.Name "set" p2) [a] [] q] [] pos) (tSSInt X.K ta) := by
  refine ⟨fun pins s σ H Q I h => ss_pe hg hm hg2 hm2 na (ha.run pins s σ H _ I h) (fun s1 v x H1 I1 r1 q1 => ?_) I⟩
  obtain ⟨l, ns, rfl, hl, hn, k⟩ := q1
  cases r1
  obtain ⟨its, r, hl'⟩ := seq_of I1 hl
  obtain ⟨ks, e1, e2, hks⟩ := int_vals r
  have elen : ks.length = ns.length := by rw [← e1, List.length_map]
  refine ss_run (intMaker X.prog X.w) hc hu ks I1 hl' (by rw [e2]) (fun p hp => ?_) (fun _ _ => trivial) (by rw [elen]; exact hn) (fun p => .int p.1) (fun p hp => ?_) fun L p h1 h2 h3 h4 hp => ?_
  · obtain ⟨t, e⟩ := hks p hp
    show (intKind X.prog X.w).is p.1 p.2 = true
    rw [e]; exact intKind_is _ _ _ _
  · exact hks p hp
  · have em : L.map (fun p => V.int p.1) = (L.map (·.1)).map V.int := by rw [List.map_map]; rfl
    rw [em]
    refine k (L.map (·.1)) p (fun n => ⟨fun hn => ?_, fun hn => ?_⟩) (by rw [List.length_map, ← elen]; exact h3) (h4 rfl) hp
    · obtain ⟨q, hq, e⟩ := List.mem_map.mp hn
      rw [← e1]; exact List.mem_map.mpr ⟨q, h1 q hq, e⟩
    · rw [← e1] at hn
      obtain ⟨q, hq, e⟩ := List.mem_map.mp hn
      obtain ⟨r, hr, er⟩ := h2 q hq
      exact List.mem_map.mpr ⟨r, hr, er.trans e⟩
def tSSStr (K : PySem.W.Frag) (ta : TE) : TE := fun σ H Q => ta σ H fun x H1 => ∃ (l : Addr) (ns : List Str), x = .ref l ∧ (SqL K H1 l (ns.map V.str) ∨ SqT K H1 l (ns.map V.str)) ∧ ns.length < 4000 ∧
  ∀ (ms : List Str) (p : Addr), (∀ n, n ∈ ms ↔ n ∈ ns) → ms.length ≤ ns.length → ms.Nodup → H1 p = none → Q (.ref p) (upd H1 p (.lst (ms.map V.str)))
theorem pe_ssStr {a : Expr} {ta : TE} {p p2 q pos : Pos} (hc : X.calm = true) (hu : X.A.units + 64 < cLine) (hm : X.mg "sorted" = none) (hm2 : X.mg "set" = none) (ha : PE X a ta) (hg : Gl X "sorted" := by rfl) (hg2 : Gl X "set" := by rfl)
    (na : starEach [a] X.env = (false, eval a X.env) :: starEach [] X.env := by rfl) : PE X (.Call (.Name "sorted" p) [.Call (.Name "set" p2) [a] [] q] [] pos) (tSSStr X.K ta) := by
  refine ⟨fun pins s σ H Q I h => ss_pe hg hm hg2 hm2 na (ha.run pins s σ H _ I h) (fun s1 v x H1 I1 r1 q1 => ?_) I⟩
  obtain ⟨l, ns, rfl, hl, hn, k⟩ := q1
  cases r1
  obtain ⟨its, r, hl'⟩ := seq_of I1 hl
  obtain ⟨ks, e1, e2, hks⟩ := str_vals r
  have elen : ks.length = ns.length := by rw [← e1, List.length_map]
  refine ss_run (strMaker X.prog X.w) hc hu ks I1 hl' (by rw [e2]) (fun p hp => ?_) (fun _ _ => trivial) (by rw [elen]; exact hn) (fun p => .str p.1) (fun p hp => ?_) fun L p h1 h2 h3 h4 hp => ?_
  · obtain ⟨t, e⟩ := hks p hp
    show (strKind X.prog X.w).is p.1 p.2 = true
    rw [e]; exact strKind_is _ _ _ _
  · exact hks p hp
  · have em : L.map (fun p => V.str p.1) = (L.map (·.1)).map V.str := by rw [List.map_map]; rfl
    rw [em]
    refine k (L.map (·.1)) p (fun n => ⟨fun hn => ?_, fun hn => ?_⟩) (by rw [List.length_map, ← elen]; exact h3) (h4 rfl) hp
    · obtain ⟨q, hq, e⟩ := List.mem_map.mp hn
      rw [← e1]; exact List.mem_map.mpr ⟨q, h1 q hq, e⟩
    · rw [← e1] at hn
      obtain ⟨q, hq, e⟩ := List.mem_map.mp hn
      obtain ⟨r, hr, er⟩ := h2 q hq
      exact List.mem_map.mpr ⟨r, hr, er.trans e⟩
theorem str_items {P : Program} {w : World} : ∀ {k : List Str} {us : List Value}, Vals (k.map V.str) us → ItemsAre (strKind P w) k us
  | [], _, .nil => .nil
  | n :: k, _, .cons r t => by
    obtain ⟨tk, rfl⟩ := r
    exact .cons (strKind_is P w n tk) (str_items t)
theorem ref_vals : ∀ {ks : List (List Str × Addr)} {us : List Value}, Vals (ks.map fun p => V.ref p.2) us → us = ks.map fun p => Value.ref p.2
  | [], _, .nil => rfl
  | p :: ks, _, .cons r t => by
    cases r
    rw [ref_vals t]
    rfl
/-- tuples of texts: each a text at least, fewer than 64 tuples -/
def tSSTup (K : PySem.W.Frag) (ta : TE) : TE := fun σ H Q => ta σ H fun x H1 => ∃ (l : Addr) (ks : List (List Str × Addr)), x = .ref l ∧ SqL K H1 l (ks.map fun p => V.ref p.2) ∧ (∀ p ∈ ks, p.1 ≠ [] ∧ SqT K H1 p.2 (p.1.map V.str)) ∧ ks.length < 64 ∧
  ∀ (ms : List (List Str × Addr)) (p : Addr), (∀ q ∈ ms, q ∈ ks) → (∀ q ∈ ks, ∃ r ∈ ms, r.1 = q.1) → ms.length ≤ ks.length → H1 p = none → Q (.ref p) (upd H1 p (.lst (ms.map fun p => V.ref p.2)))
theorem pe_ssTup {a : Expr} {ta : TE} {p p2 q pos : Pos} (hc : X.calm = true) (hu : X.A.units + 64 < cLine) (hm : X.mg "sorted" = none) (hm2 : X.mg "set" = none) (ha : PE X a ta) (hg : Gl X "sorted" := by rfl) (hg2 : Gl X "set" := by rfl)
    (na : starEach [a] X.env = (false, eval a X.env) :: starEach [] X.env := by rfl) : PE X (.Call (.Name "sorted" p) [.Call (.Name "set" p2) [a] [] q] [] pos) (tSSTup X.K ta) := by
  refine ⟨fun pins s σ H Q I h => ss_pe hg hm hg2 hm2 na (ha.run pins s σ H _ I h) (fun s1 v x H1 I1 r1 q1 => ?_) I⟩
  obtain ⟨l, ks, rfl, hl, hks, hn, k⟩ := q1
  cases r1
  obtain ⟨its, r, hl'⟩ := seq_of I1 (.inl hl)
  have ei := ref_vals r
  have e2 : its = (ks.map fun p => (p.1, Value.ref p.2)).map (·.2) := by rw [ei, List.map_map]; rfl
  have back : ∀ {q : List Str × Value}, q ∈ (ks.map fun p => (p.1, Value.ref p.2)) → ∃ r ∈ ks, q = (r.1, Value.ref r.2) := fun {q} hq => by
    obtain ⟨r, hr, e⟩ := List.mem_map.mp hq
    exact ⟨r, hr, e.symm⟩
  let vOf : List Str × Value → V := fun q => match q.2 with
    | .ref c => .ref c
    | _ => .non
  refine ss_run (tupMaker X.prog X.w) hc hu (ks.map fun p => (p.1, Value.ref p.2)) I1 hl' (by rw [← e2]) (fun p hp => ?_) (fun p hp => ?_) (by rw [List.length_map]; exact hn) vOf (fun p hp => ?_) fun L p h1 h2 h3 h4 hp => ?_
  · obtain ⟨r, hr, rfl⟩ := back hp
    obtain ⟨its, rv, ⟨o, ho, hc, n, hd⟩, _⟩ := I1.tuple (hks r hr).2
    exact ⟨r.2, rfl, o, its.toArray, n, ho, hc, hd, by simpa using str_items rv⟩
  · obtain ⟨r, hr, rfl⟩ := back hp
    exact (hks r hr).1
  · obtain ⟨r, hr, rfl⟩ := back hp
    exact rfl
  · have ex : ∀ L : Mem (List Str), (∀ q ∈ L, q ∈ ks.map fun p => (p.1, Value.ref p.2)) → ∃ ms : List (List Str × Addr), L = ms.map (fun p => (p.1, Value.ref p.2)) ∧ ∀ q ∈ ms, q ∈ ks := by
      intro L
      induction L with
      | nil => exact fun _ => ⟨[], rfl, fun q hq => (by cases hq)⟩
      | cons q L ih =>
        intro hs
        obtain ⟨ms, e, hm⟩ := ih fun x hx => hs x (List.mem_cons_of_mem _ hx)
        obtain ⟨r, hr, rfl⟩ := back (hs q List.mem_cons_self)
        refine ⟨r :: ms, by rw [List.map_cons, e], fun x hx => ?_⟩
        rcases List.mem_cons.mp hx with z | z
        · rw [z]; exact hr
        · exact hm x z
    obtain ⟨ms, rfl, hms⟩ := ex L h1
    have em : (ms.map fun p => (p.1, Value.ref p.2)).map vOf = ms.map fun p => V.ref p.2 := by rw [List.map_map]; rfl
    rw [em]
    refine k ms p hms (fun q hq => ?_) (by rw [List.length_map, List.length_map] at h3; exact h3) hp
    obtain ⟨r, hr, er⟩ := h2 (q.1, .ref q.2) (List.mem_map.mpr ⟨q, hq, rfl⟩)
    obtain ⟨r', hr', e'⟩ := List.mem_map.mp hr
    exact ⟨r', hr', by rw [← er, ← e']⟩
end
end Sbx
/-! enumerate of a tuple -/
namespace Sbx
open PySem PySem.Spec PyProof.Rows L2
open AutoSeq1 (wpAny_loadPart')
theorem meets_enumT (l : Addr) (items : Array Value) (n : Nat) (dct : Option Addr) (sl : Array (Option Value)) :
    Meets (Builtin.«enumerate.__new__» ⟨[.type "enumerate", .ref l], []⟩) (fun _ R s => s.heap.get? l = some { cls := .type "tuple", dict := dct, data := .seq items n, slots := sl } ∧
      R (.ok (.ret (.ref (s.heap.push { cls := .type "tuple_iterator", data := .fields #[.ref l, .int 0 0] }).objs.size)))
        { s with heap := (s.heap.push { cls := .type "tuple_iterator", data := .fields #[.ref l, .int 0 0] }).push { cls := .type "enumerate", data := .fields #[.none, .bool false, .ref s.heap.objs.size, rawInt 0, .none, .none] } }) :=
  .of_wp fun prog w A R s h => by
    obtain ⟨hp, g, d, tk, os⟩ := s
    obtain ⟨hl, h⟩ := h
    have hsub := sub_enumerate
    have hL : Heap.IsTuple (Shared.heap ⟨hp, g, d, tk, os⟩) l items := ⟨_, hl, rfl, n, rfl⟩
    wp_walk using wpAny_loadPart' hl
    refine wpAny_stack_any fun st => wpAny_pure ?_
    split
    · rename_i c _ _ _ _ _
      cases (c == Value.type "enumerate")
      · wp_walk using wpAny_loadPart' hl, wpAny_pyIter_tuple hL
        exact ⟨_, rfl, h⟩
      · wp_walk using wpAny_loadPart' hl, wpAny_pyIter_tuple hL
        exact ⟨_, rfl, h⟩
    · wp_walk using wpAny_loadPart' hl, wpAny_pyIter_tuple hL
      exact ⟨_, rfl, h⟩
section
variable {P : Program} {w : World} {A : Around} {E : Value → Shared → Prop} {s : Shared}
theorem call_enumT {l : Addr} {items : Array Value} {Q : Value → Shared → Prop} (hL : s.heap.IsTuple l items)
    (h : ∀ h', IsEnum h' (s.heap.objs.size + 1) s.heap.objs.size 0 .none → h'.IsTupleIter s.heap.objs.size l 0 → (∀ b o, s.heap.get? b = some o → h'.get? b = some o) → Q (.ref (s.heap.objs.size + 1)) { s with heap := h' }) :
    wpAny (model P w) A (call (.type "enumerate") [.ref l]) Q E s := by
  obtain ⟨⟨c, dct, dt, sl⟩, hl, hc, n, hd⟩ := hL
  replace hc : c = .type "tuple" := hc
  replace hd : dt = .seq items n := hd
  subst hc hd
  refine callType_new F.called_enumerate (by decide) (F.typeCall_enumerate_1 _) (F.newCall_enumerate_1 _) (fun obj => F.args_object_init_2 obj _) F.entry_enumerate_new (meets_enumT l items n dct sl) ⟨hl, ?_⟩
  have hz : (s.heap.push { cls := .type "tuple_iterator", data := .fields #[.ref l, .int 0 0] }).objs.size = s.heap.objs.size + 1 := Heap.size_push ..
  show _ ∧ _
  rw [hz]
  have he : IsEnum ((s.heap.push { cls := .type "tuple_iterator", data := .fields #[.ref l, .int 0 0] }).push { cls := .type "enumerate", data := .fields #[.none, .bool false, .ref s.heap.objs.size, rawInt 0, .none, .none] }) (s.heap.objs.size + 1) s.heap.objs.size 0 .none := by
    have q := Heap.get?_push_size (s.heap.push { cls := .type "tuple_iterator", data := .fields #[.ref l, .int 0 0] }) (o := { cls := .type "enumerate", data := .fields #[.none, .bool false, .ref s.heap.objs.size, rawInt 0, .none, .none] }) rfl
    rw [hz] at q
    exact q
  exact ⟨⟨_, he, rfl⟩, h _ he ⟨_, Heap.get?_push_of_some _ (Heap.get?_push_size _ rfl), rfl, rfl⟩ fun b o x => Heap.get?_push_of_some _ (Heap.get?_push_of_some _ x)⟩
end
/-- the tuple at a as it stands, the items in new pairs with their places -/
def IteT (K : PySem.W.Frag) (a : Addr) : It :=
  ⟨fun i H => ∃ (xs : List V) (x : V), SqT K H a xs ∧ xs[i]? = some x, fun i H v H' => ∃ T x, v = .ref T ∧ H T = none ∧ H' = upd H T (.tup [.int (i : Nat), x]) ∧ ∀ xs, SqT K H a xs → xs[i]? = some x, fun i H => ∃ xs : List V, SqT K H a xs ∧ xs.length = i⟩
theorem turn_enumT {P : Program} {w : World} {K : PySem.W.Frag} {elts : List Expr} {kk : Nat} {tpos : Pos} (a e it : Addr) :
    Turn P w K (.Tuple elts kk tpos) (IteT K a) [e, it] e (fun i h => (∃ old, IsEnum h e it ((i : Nat) : Int) old) ∧ h.IsTupleIter it a i ∧ e ≠ it ∧ a ≠ it ∧ e ≠ a) where
  mem := by simp
  obj := fun i h st b hb => by
    obtain ⟨⟨old, he⟩, ⟨o, ho, hc, hd⟩, _⟩ := st
    rcases List.mem_cons.mp hb with z | z
    · rw [z]; exact ⟨_, he, fun v q => nomatch q⟩
    · rw [List.mem_singleton.mp z]; exact ⟨o, ho, fun v q => by rw [hd] at q; cases q⟩
  keep := fun i h h' st k => let ⟨⟨old, he⟩, hi, hne⟩ := st; ⟨⟨old, k e (by simp) _ he⟩, hi.at fun o q => k it (by simp) o q, hne⟩
  item := by
    intro X hP hw hK hc i pins s σ H E I hf st hg
    subst hP hw hK
    obtain ⟨⟨old, he⟩, hit, hne, hai, hea⟩ := st
    obtain ⟨xs, x, hq, hx⟩ := hg
    obtain ⟨its, rv, p, hz⟩ := I.tuple hq
    obtain ⟨u, hu, ru⟩ := rv.get hx
    have hel : e < s.heap.objs.size := Heap.lt_size he
    have hil : it < s.heap.objs.size := by obtain ⟨_, q, _⟩ := hit; exact Heap.lt_size q
    have hlt : i < its.toArray.size := by rw [List.size_toArray]; exact (List.getElem?_eq_some_iff.mp hu).1
    have hh : X.A.in1.handled = none := by have := I.ok.hd hc; simpa using this
    refine wpAny_pyNext_enum_itemD (Draws.tuple hh it a hai its.toArray) he ⟨hit, p⟩ hlt hne (by simp [hne, hea]) fun y h' tk hy ho hst' hT hsz hk => ?_
    have ey : y = u := by
      have q : its.toArray[i]? = some y := hy
      rw [List.getElem?_toArray, hu] at q
      exact (Option.some.inj q).symm
    subst ey
    refine ⟨_, rfl, wpAny_letOwnedTupleGo_enum (s := { s with heap := h', toks := tk + 1 }) ho fun h'' he' sb => ?_⟩
    have hT2 : h''.get? s.heap.objs.size = some { cls := .type "tuple", data := .seq #[.int i tk, y] } := (sb.2 _ (Nat.ne_of_gt hel)).trans hT
    have new : ObjOk X.prog X.w (upd H s.heap.objs.size (.tup [.int (i : Nat), x])) h'' s.heap.objs.size (.tup [.int (i : Nat), x]) :=
      ⟨by show 2 ≤ sizeLine; decide, [.int i tk, y], .cons ⟨_, rfl⟩ (.cons ru .nil), ⟨_, hT2, rfl, _, rfl⟩⟩
    have I1 : Inv X pins σ (upd H s.heap.objs.size (.tup [.int (i : Nat), x])) { s with heap := h'', toks := tk + 1 } :=
      I.turnedNew (ch := [e, it]) (fun b ob hb q => (sb.2 b (fun z => hb (by simp [z]))).trans (hk b ob (fun z => hb (by simp [z])) (fun z => hb (by simp [z])) q)) hf (Nat.le_refl _) new
    refine ⟨.ref s.heap.objs.size, _, I1, rfl, ⟨_, x, rfl, I.hok.fresh (Nat.le_refl _), rfl, fun ys hy => by rw [I.tuple_inj hy hq]; exact hx⟩, ⟨⟨y, ?_⟩, hst'.1.at fun o q => (sb.2 it (Ne.symm hne)).trans q, hne, hai, hea⟩, fun b hb => ?_⟩
    · have e1 : ((i + 1 : Nat) : Int) = (i : Int) + 1 := by omega
      rw [e1]; exact he'
    · have hb' : b < s.heap.objs.size := by
        rcases List.mem_cons.mp hb with z | z
        · rw [z]; exact hel
        · rw [List.mem_singleton.mp z]; exact hil
      rw [upd_ne (Nat.ne_of_lt hb')]
      exact (hf b hb).1
  done := by
    intro X hP hw hK hc i pins s σ H E I hf st hg
    subst hP hw hK
    obtain ⟨⟨old, he⟩, hit, hne, hai, hea⟩ := st
    obtain ⟨xs, hq, hx⟩ := hg
    obtain ⟨its, rv, p, hz⟩ := I.tuple hq
    obtain ⟨f0, f1, f2, f3, f4, f5⟩ := hf it (by simp)
    have hl := rv.length
    have hh : X.A.in1.handled = none := by have := I.ok.hd hc; simpa using this
    have en : i = its.toArray.size := by rw [List.size_toArray, ← hl, hx]
    rw [en] at he hit
    exact wpAny_pyNext_enum_endD (Draws.tuple hh it a hai its.toArray) he ⟨hit, p⟩ fun h' eb => ⟨rfl, I.turned (t' := s.toks) (fun b o hb q => eb b o hb q) f0 f1 f3 f4 f5⟩
  self := fun A i s Q E st h => let ⟨⟨_, he⟩, _⟩ := st; wpAny_pyIter_enum he h
theorem walk_enumT {K : PySem.W.Frag} {a : Addr} {xs : List V} : L2.Walk (IteT K a) xs.length (fun H => SqT K H a xs) (L2.YPair (fun i => some (.int (i : Nat))) (fun i => xs[i]?)) := by
  refine ⟨fun i _ hi q => ⟨xs, xs[i], q, by simp [hi]⟩, fun _ q => ⟨xs, q, rfl⟩, fun i H v H' _ q y => ?_⟩
  obtain ⟨T, x, h1, h2, h3, h4⟩ := y
  exact ⟨T, .int (i : Nat), x, h1, h2, h3, rfl, h4 xs q⟩
def iEnumT (K : PySem.W.Frag) (ta : TA) : TI := fun σ H R => ta σ H fun vs H1 => ∃ a xs, vs = [.ref a] ∧ SqT K H1 a xs ∧ R (IteT K a) H1
theorem pi_enumT {X : Cx} {e : Expr} {ta : TA} {p pos tpos : Pos} {elts : List Expr} {kk : Nat} (hm : X.mg "enumerate" = none) (ha : PA X [e] ta) (hg : Gl X "enumerate" := by rfl) (hs : starEach [e] X.env = [(false, eval e X.env)] := by rfl) :
    PI X (.Tuple elts kk tpos) (.Call (.Name "enumerate" p) [e] [] pos) (iEnumT X.K ta) := by
  refine ⟨fun pins s σ H R I h => ?_⟩
  refine Call_ (ld_blt I hg hm boot_enumerate (PyProof.Rows.callWith_type1 (thn (ha.run pos pins s σ H _ I h) fun us s1 ⟨vs, H1, I1, r1, q1⟩ => ?_) hs rfl))
  obtain ⟨a, xs, rfl, hq, q⟩ := q1
  cases r1 with
  | cons r rr =>
    cases rr
    cases r
    obtain ⟨its, rv, p', hz⟩ := I1.tuple hq
    have hal : a < s1.heap.objs.size := by obtain ⟨o, e, _⟩ := p'; exact Heap.lt_size e
    refine call_enumT p' fun h' he hit hk => wpAny_pyIter_enum he ?_
    have I2 : Inv X pins σ H1 { s1 with heap := h' } := I1.kept (t' := s1.toks) hk
    refine ⟨s1.heap.objs.size + 1, [s1.heap.objs.size + 1, s1.heap.objs.size], _, _, H1, rfl, I2, turn_enumT a (s1.heap.objs.size + 1) s1.heap.objs.size, ⟨⟨.none, he⟩, hit, Nat.succ_ne_self _, Nat.ne_of_lt hal, Nat.ne_of_gt (Nat.lt_succ_of_lt hal)⟩, fun b hb => ?_, q⟩
    have hle : s1.heap.objs.size ≤ b := by
      rcases List.mem_cons.mp hb with z | z
      · rw [z]; exact Nat.le_add_right _ _
      · rw [List.mem_singleton.mp z]; exact Nat.le_refl _
    exact I1.fpOk hle (I1.hok.fresh hle)
end Sbx
/-! a calculus of data: what an expression, a statement makes of slots that hold data, with no heap in sight -/
namespace Dl
open PySem PySem.Spec PyProof.Rows L2
/-! ### heaps: F what stays for good, H all -/
structure Grow (F H F' H' : Hp) : Prop where
  ff : Same F F'
  fh : Same F' H'
  hh : Same H H'
  nw : ∀ b, F b = none → H b ≠ none → F' b = none
theorem Grow.refl {F H : Hp} (h : Same F H) : Grow F H F H := ⟨Same.refl F, h, Same.refl H, fun _ e _ => e⟩
theorem Grow.trans {F H F1 H1 F2 H2 : Hp} (a : Grow F H F1 H1) (b : Grow F1 H1 F2 H2) : Grow F H F2 H2 :=
  ⟨a.ff.trans b.ff, b.fh, a.hh.trans b.hh, fun c e n => b.nw c (a.nw c e n) fun z => n (a.hh.free z)⟩
theorem same_new {H : Hp} {p : Addr} {o : HO} (h : H p = none) : Same H (upd H p o) := fun b x e => by
  rw [upd_ne (ne_of_none e h)]; exact e
/-- a new object that stays -/
theorem Grow.new {F H : Hp} {p : Addr} {o : HO} (h : Same F H) (n : H p = none) : Grow F H (upd F p o) (upd H p o) := by
  refine ⟨same_new (h.free n), fun b x e => ?_, same_new n, fun b e m => ?_⟩
  · by_cases hb : b = p
    · subst hb; rw [upd_same] at e ⊢; exact e
    · rw [upd_ne hb] at e ⊢; exact h b x e
  · have hb : b ≠ p := fun z => m (z ▸ n)
    rw [upd_ne hb]; exact e
/-- a new object that may change -/
theorem Grow.newH {F H : Hp} {p : Addr} {o : HO} (h : Same F H) (n : H p = none) : Grow F H F (upd H p o) :=
  ⟨Same.refl F, h.trans (same_new n), same_new n, fun _ e _ => e⟩
/-- an object that F does not know yet stays from now on -/
theorem Grow.keep {F0 H0 F H : Hp} {p : Addr} {o : HO} (g : Grow F0 H0 F H) (n0 : H0 p = none) (n : F p = none) (h : H p = some o) : Grow F0 H0 (upd F p o) H := by
  refine ⟨g.ff.trans (same_new n), fun b x e => ?_, g.hh, fun b e m => ?_⟩
  · by_cases hb : b = p
    · subst hb; rw [upd_same] at e; rw [h]; exact e
    · rw [upd_ne hb] at e; exact g.fh b x e
  · have hb : b ≠ p := fun z => m (z ▸ n0)
    rw [upd_ne hb]; exact g.nw b e m
/-- a change to an object that is younger than H0 and not in F -/
theorem Grow.mut {F0 H0 F H : Hp} {p : Addr} {o : HO} (g : Grow F0 H0 F H) (n0 : H0 p = none) (n : F p = none) : Grow F0 H0 F (upd H p o) := by
  refine ⟨g.ff, fun b x e => ?_, fun b x e => ?_, g.nw⟩
  · rw [upd_ne (ne_of_none e n)]; exact g.fh b x e
  · rw [upd_ne (ne_of_none e n0)]; exact g.hh b x e

/-! ### data -/
variable {K : PySem.W.Frag}
theorem seqT {H H' : Hp} {a : Addr} {xs : List V} (e : Same H H') (h : SqT K H a xs) : SqT K H' a xs := by
  rcases h with (h | ⟨o, h⟩) | h
  · exact .inl (.inl (e _ _ h))
  · exact .inl (.inr ⟨o, e _ _ h⟩)
  · exact .inr h
mutual
theorem dp_mono {H H' : Hp} (e : Same H H') : ∀ (d : PyData) (v : V), Dp K H v d → Dp K H' v d
  | .none, _, h => by cases h; exact .non
  | .bool b, _, h => by cases h; exact .bl b
  | .int i, _, h => by cases h; exact .int i
  | .str x, _, h => by cases h; exact .str x
  | .list ds, _, h => by
    cases h with
    | lst hs ha => exact .lst (e.seq hs) (dpAll_mono e ds _ ha)
  | .tuple ds, _, h => by
    cases h with
    | tup hs ha => exact .tup (seqT e hs) (dpAll_mono e ds _ ha)
  | .dict _, _, h => by cases h
theorem dpAll_mono {H H' : Hp} (e : Same H H') : ∀ (ds : List PyData) (vs : List V), DpAll K H vs ds → DpAll K H' vs ds
  | [], _, h => by cases h; exact .nil
  | d :: ds, _, h => by
    cases h with
    | cons h1 h2 => exact .cons (dp_mono e d _ h1) (dpAll_mono e ds _ h2)
end
theorem dpa_len {H : Hp} : ∀ {vs : List V} {ds : List PyData}, DpAll K H vs ds → vs.length = ds.length
  | _, _, .nil => rfl
  | _, _, .cons _ t => congrArg (· + 1) (dpa_len t)
theorem dpa_at {H : Hp} : ∀ {vs : List V} {ds : List PyData} {i : Nat} {x : V}, DpAll K H vs ds → vs[i]? = some x → ∃ d, ds[i]? = some d ∧ Dp K H x d
  | _, _, 0, _, .cons h _, e => ⟨_, rfl, (Option.some.inj e) ▸ h⟩
  | _, _, i + 1, _, .cons _ t, e => dpa_at (i := i) t e
  | _, _, _, _, .nil, e => by cases e
theorem dpa_ix {H : Hp} : ∀ {vs : List V} {ds : List PyData} {i : Nat} {d : PyData}, DpAll K H vs ds → ds[i]? = some d → ∃ x, vs[i]? = some x ∧ Dp K H x d
  | _, _, 0, _, .cons h _, e => ⟨_, rfl, (Option.some.inj e) ▸ h⟩
  | _, _, i + 1, _, .cons _ t, e => dpa_ix (i := i) t e
  | _, _, _, _, .nil, e => by cases e
theorem dpa_app {H : Hp} : ∀ {vs us : List V} {ds es : List PyData}, DpAll K H vs ds → DpAll K H us es → DpAll K H (vs ++ us) (ds ++ es)
  | _, _, _, _, .nil, h => h
  | _, _, _, _, .cons h t, k => .cons h (dpa_app t k)
theorem dpa_take {H : Hp} : ∀ {vs : List V} {ds : List PyData} (n : Nat), DpAll K H vs ds → DpAll K H (vs.take n) (ds.take n)
  | _, _, 0, h => by simp [List.take]; exact .nil
  | _, _, n + 1, .nil => .nil
  | _, _, n + 1, .cons h t => .cons h (dpa_take n t)
theorem dpa_drop {H : Hp} : ∀ {vs : List V} {ds : List PyData} (n : Nat), DpAll K H vs ds → DpAll K H (vs.drop n) (ds.drop n)
  | _, _, 0, h => h
  | _, _, n + 1, .nil => .nil
  | _, _, n + 1, .cons h t => dpa_drop n t
theorem dpa_rep {H : Hp} {v : V} {d : PyData} (h : Dp K H v d) : ∀ n, DpAll K H (List.replicate n v) (List.replicate n d)
  | 0 => .nil
  | n + 1 => .cons h (dpa_rep h n)

/-! ### relations between what stays, the heap and a value -/
abbrev Rel := Hp → Hp → V → Prop
class MonoR (R : Rel) : Prop where
  m : ∀ F H F' H' v, Grow F H F' H' → R F H v → R F' H' v
/-- told by what stays alone -/
class PerR (R : Rel) : Prop where
  m : ∀ F H F' H' v, Same F F' → R F H v → R F' H' v
instance {R : Rel} [p : PerR R] : MonoR R := ⟨fun F H F' H' v g h => p.m F H F' H' v g.ff h⟩
def Dat (K : PySem.W.Frag) (d : PyData) : Rel := fun F _ v => Dp K F v d
instance {d : PyData} : PerR (Dat K d) := ⟨fun _ _ _ _ _ g h => dp_mono g _ _ h⟩
/-- a list or a tuple to be read -/
def Sqd (K : PySem.W.Frag) (ds : List PyData) : Rel := fun F H v => ∃ p vs, v = .ref p ∧ (SqL K H p vs ∨ SqT K H p vs) ∧ DpAll K F vs ds
instance {ds : List PyData} : MonoR (Sqd K ds) := ⟨fun _ _ _ _ _ g ⟨p, vs, e, h, a⟩ => ⟨p, vs, e, h.imp (fun h => g.hh.seq h) (fun h => seqT g.hh h), dpAll_mono g.ff _ _ a⟩⟩
/-- a list to be read -/
def Lsd (K : PySem.W.Frag) (ds : List PyData) : Rel := fun F H v => ∃ p vs, v = .ref p ∧ SqL K H p vs ∧ DpAll K F vs ds
instance {ds : List PyData} : MonoR (Lsd K ds) := ⟨fun _ _ _ _ _ g ⟨p, vs, e, h, a⟩ => ⟨p, vs, e, g.hh.seq h, dpAll_mono g.ff _ _ a⟩⟩
/-- a tracked list to be read -/
def Trk (K : PySem.W.Frag) (ds : List PyData) : Rel := fun F H v => ∃ p vs, v = .ref p ∧ H p = some (.lst vs) ∧ DpAll K F vs ds
instance {ds : List PyData} : MonoR (Trk K ds) := ⟨fun _ _ _ _ _ g ⟨p, vs, e, h, a⟩ => ⟨p, vs, e, g.hh _ _ h, dpAll_mono g.ff _ _ a⟩⟩
theorem dat_tup {ds : List PyData} {F H : Hp} {v : V} (h : Dat K (.tuple ds) F H v) : ∃ p vs, v = .ref p ∧ SqT K F p vs ∧ DpAll K F vs ds := by
  cases h with
  | tup hs ha => exact ⟨_, _, rfl, hs, ha⟩
theorem dat_lst {ds : List PyData} {F H : Hp} {v : V} (h : Dat K (.list ds) F H v) : ∃ p vs, v = .ref p ∧ SqL K F p vs ∧ DpAll K F vs ds := by
  cases h with
  | lst hs ha => exact ⟨_, _, rfl, hs, ha⟩

/-! ### what stands in the slots -/
inductive Ent where
  | no
  | is (R : Rel)
  | own (ds : List PyData)
def SlotOk (K : PySem.W.Frag) (H0 F H : Hp) (o : Option (Option V)) : Ent → Prop
  | .no => True
  | .is R => PerR R ∧ ∃ v, o = some (some v) ∧ R F H v
  | .own ds => ∃ p vs, o = some (some (.ref p)) ∧ H0 p = none ∧ F p = none ∧ H p = some (.lst vs) ∧ DpAll K F vs ds
structure Sv (K : PySem.W.Frag) (es : List Ent) (F0 H0 F H : Hp) (σ : L2.St) : Prop where
  s0 : Same F0 H0
  g : Grow F0 H0 F H
  len : es.length = σ.length
  ok : ∀ (i : Nat) (e : Ent), es[i]? = some e → SlotOk K H0 F H σ[i]? e
  df : ∀ (i j : Nat) (ds ds' : List PyData), i ≠ j → es[i]? = some (.own ds) → es[j]? = some (.own ds') → σ[i]? ≠ σ[j]?
section
variable {es es' : List Ent} {F0 H0 F H F' H' : Hp} {σ : L2.St}
theorem Sv.fh (h : Sv K es F0 H0 F H σ) : Same F H := h.g.fh
theorem SlotOk.grow {o : Option (Option V)} {e : Ent} (h : SlotOk K H0 F H o e) (g : Grow F H F' H') : SlotOk K H0 F' H' o e := by
  cases e with
  | no => trivial
  | is R =>
    obtain ⟨m, v, e, r⟩ := h
    exact ⟨m, v, e, m.m _ _ _ _ _ g.ff r⟩
  | own ds =>
    obtain ⟨p, vs, e, n0, n, hp, a⟩ := h
    exact ⟨p, vs, e, n0, g.nw p n (by rw [hp]; exact fun z => by cases z), g.hh _ _ hp, dpAll_mono g.ff _ _ a⟩
theorem Sv.grow (h : Sv K es F0 H0 F H σ) (g : Grow F H F' H') : Sv K es F0 H0 F' H' σ :=
  ⟨h.s0, h.g.trans g, h.len, fun i e he => (h.ok i e he).grow g, h.df⟩
/-- weaker words about the slots -/
def Wk (es es' : List Ent) : Prop := es.length = es'.length ∧ ∀ (i : Nat) (e : Ent), es'[i]? = some e → e = .no ∨ es[i]? = some e
theorem Sv.wk (h : Sv K es F0 H0 F H σ) (w : Wk es es') : Sv K es' F0 H0 F H σ := by
  refine ⟨h.s0, h.g, w.1.symm.trans h.len, fun i e he => ?_, fun i j ds ds' hn h1 h2 => ?_⟩
  · rcases w.2 i e he with z | z
    · rw [z]; trivial
    · exact h.ok i e z
  · rcases w.2 i _ h1 with z | z
    · cases z
    · rcases w.2 j _ h2 with z' | z'
      · cases z'
      · exact h.df i j ds ds' hn z z'
theorem wk_refl (es : List Ent) : Wk es es := ⟨rfl, fun _ _ h => .inr h⟩
theorem wk_no (es : List Ent) (j : Nat) : Wk es (es.set j .no) := by
  refine ⟨by rw [List.length_set], fun i e h => ?_⟩
  rw [List.getElem?_set] at h
  split at h
  · split at h
    · exact .inl (Option.some.inj h).symm
    · cases h
  · exact .inr h
theorem Wk.trans {e1 e2 e3 : List Ent} (a : Wk e1 e2) (b : Wk e2 e3) : Wk e1 e3 := ⟨a.1.trans b.1, fun i e h => by
  rcases b.2 i e h with z | z
  · exact .inl z
  · exact a.2 i e z⟩
theorem get_set_σ {i : Nat} {x : Option V} (h : i < σ.length) : (σ.set i x)[i]? = some x := by simp [h]
/-- a slot gets data -/
theorem Sv.set {i : Nat} {R : Rel} {v : V} [m : PerR R] (h : Sv K es F0 H0 F H σ) (hv : R F H v) : Sv K (es.set i (.is R)) F0 H0 F H (σ.set i (some v)) := by
  refine ⟨h.s0, h.g, by rw [List.length_set, List.length_set]; exact h.len, fun j e he => ?_, fun j k ds ds' hn h1 h2 => ?_⟩
  · by_cases hj : i = j
    · subst hj
      have hl : i < es.length := by
        have := (List.getElem?_eq_some_iff.mp he).1
        rwa [List.length_set] at this
      rw [List.getElem?_set_self hl] at he
      cases he
      exact ⟨m, v, get_set_σ (h.len ▸ hl), hv⟩
    · rw [List.getElem?_set_ne hj] at he ⊢
      exact h.ok j e he
  · have q : ∀ {j : Nat} {ds : List PyData}, (es.set i (.is R))[j]? = some (.own ds) → i ≠ j ∧ es[j]? = some (.own ds) := fun {j ds} hj => by
      by_cases hij : i = j
      · subst hij
        have hl : i < es.length := by
          have := (List.getElem?_eq_some_iff.mp hj).1
          rwa [List.length_set] at this
        rw [List.getElem?_set_self hl] at hj
        cases hj
      · rw [List.getElem?_set_ne hij] at hj
        exact ⟨hij, hj⟩
    obtain ⟨a1, a2⟩ := q h1
    obtain ⟨b1, b2⟩ := q h2
    rw [List.getElem?_set_ne a1, List.getElem?_set_ne b1]
    exact h.df j k ds ds' hn a2 b2
theorem own_at {j : Nat} {ds : List PyData} {i : Nat} {e : Ent} (hi : (es.set i e)[j]? = some (.own ds)) (hij : i ≠ j) : es[j]? = some (.own ds) := by
  rw [List.getElem?_set_ne hij] at hi
  exact hi
/-- a slot gets a new list of its own -/
theorem Sv.setOwn {i : Nat} {ds : List PyData} {p : Addr} {vs : List V} (h : Sv K es F0 H0 F H σ) {G : Hp} (n : G p = none) (gg : Grow F G F' H') (hs : Sv K es F0 H0 F G σ) (np : F' p = none) (hp : H' p = some (.lst vs)) (a : DpAll K F' vs ds) :
    Sv K (es.set i (.own ds)) F0 H0 F' H' (σ.set i (some (.ref p))) := by
  have n0 : H0 p = none := hs.g.hh.free n
  have h' := hs.grow gg
  refine ⟨h'.s0, h'.g, by rw [List.length_set, List.length_set]; exact h'.len, fun j e he => ?_, fun j k ds1 ds2 hn h1 h2 => ?_⟩
  · by_cases hj : i = j
    · subst hj
      have hl : i < es.length := by
        have := (List.getElem?_eq_some_iff.mp he).1
        rwa [List.length_set] at this
      rw [List.getElem?_set_self hl] at he
      cases he
      exact ⟨p, vs, get_set_σ (h'.len ▸ hl), n0, np, hp, a⟩
    · rw [List.getElem?_set_ne hj] at he ⊢
      exact h'.ok j e he
  · have other : ∀ {j : Nat} {ds1 : List PyData}, i ≠ j → es[j]? = some (.own ds1) → σ[j]? ≠ some (some (.ref p)) := fun {j ds1} hij hj z => by
      obtain ⟨q, us, e1, _, _, hq, _⟩ := hs.ok j _ hj
      rw [z] at e1
      cases e1
      rw [n] at hq
      cases hq
    by_cases hj : i = j
    · subst hj
      have hl : i < es.length := by
        have := (List.getElem?_eq_some_iff.mp h1).1
        rwa [List.length_set] at this
      rw [get_set_σ (h'.len ▸ hl), List.getElem?_set_ne hn]
      exact fun z => other hn (own_at h2 hn) z.symm
    · by_cases hk : i = k
      · subst hk
        have hl : i < es.length := by
          have := (List.getElem?_eq_some_iff.mp h2).1
          rwa [List.length_set] at this
        rw [get_set_σ (h'.len ▸ hl), List.getElem?_set_ne hj]
        exact other hj (own_at h1 hj)
      · rw [List.getElem?_set_ne hj, List.getElem?_set_ne hk]
        exact h'.df j k ds1 ds2 hn (own_at h1 hj) (own_at h2 hk)
/-- a list of one's own is changed -/
theorem Sv.chg {i : Nat} {ds ds' : List PyData} {p : Addr} {vs vs' : List V} (h : Sv K es F0 H0 F H σ) (hi : es[i]? = some (.own ds)) (hσ : σ[i]? = some (some (.ref p))) (a : DpAll K F vs' ds') :
    Sv K (es.set i (.own ds')) F0 H0 F (upd H p (.lst vs')) σ := by
  obtain ⟨q, us, e1, n0, n, hq, _⟩ := h.ok i _ hi
  have ep : p = q := by rw [hσ] at e1; injection e1 with e1; injection e1 with e1; injection e1
  subst ep
  have hl : i < es.length := (List.getElem?_eq_some_iff.mp hi).1
  refine ⟨h.s0, h.g.mut n0 n, by rw [List.length_set]; exact h.len, fun j e he => ?_, fun j k ds1 ds2 hn h1 h2 => ?_⟩
  · by_cases hj : i = j
    · subst hj
      rw [List.getElem?_set_self hl] at he
      cases he
      exact ⟨p, vs', hσ, n0, n, upd_same, a⟩
    · rw [List.getElem?_set_ne hj] at he
      have o := h.ok j e he
      cases e with
      | no => trivial
      | is R =>
        obtain ⟨m, v, e, r⟩ := o
        exact ⟨m, v, e, m.m _ _ _ _ _ (Same.refl F) r⟩
      | own ds2 =>
        obtain ⟨q, us2, e2, m0, m, hq2, a2⟩ := o
        have hne : q ≠ p := fun z => h.df i j _ _ hj hi he (by rw [hσ, e2, z])
        exact ⟨q, us2, e2, m0, m, by rw [upd_ne hne]; exact hq2, a2⟩
  · have back : ∀ {j : Nat} {ds1 : List PyData}, (es.set i (.own ds'))[j]? = some (.own ds1) → ∃ ds3, es[j]? = some (.own ds3) := fun {j ds1} hj => by
      by_cases hij : i = j
      · subst hij; exact ⟨ds, hi⟩
      · exact ⟨ds1, own_at hj hij⟩
    obtain ⟨d1, b1⟩ := back h1
    obtain ⟨d2, b2⟩ := back h2
    exact h.df j k _ _ hn b1 b2
/-- a list of one's own will not change any more -/
theorem Sv.frz {i : Nat} {ds : List PyData} (h : Sv K es F0 H0 F H σ) (hi : es[i]? = some (.own ds)) : ∃ F', Same F F' ∧ Sv K (es.set i (.is (Dat K (.list ds)))) F0 H0 F' H σ := by
  obtain ⟨p, vs, e1, n0, n, hp, a⟩ := h.ok i _ hi
  have hl : i < es.length := (List.getElem?_eq_some_iff.mp hi).1
  have sf : Same F (upd F p (.lst vs)) := same_new n
  have gk := h.g.keep n0 n hp
  -- F grows by p alone
  refine ⟨upd F p (.lst vs), sf, h.s0, gk, by rw [List.length_set]; exact h.len, fun j e he => ?_, fun j k ds1 ds2 hn h1 h2 => ?_⟩
  · by_cases hj : i = j
    · subst hj
      rw [List.getElem?_set_self hl] at he
      cases he
      exact ⟨inferInstance, .ref p, e1, .lst (.inl (.inl upd_same)) (dpAll_mono sf _ _ a)⟩
    · rw [List.getElem?_set_ne hj] at he
      have o := h.ok j e he
      cases e with
      | no => trivial
      | is R =>
        obtain ⟨m, v, e, r⟩ := o
        exact ⟨m, v, e, m.m _ _ _ _ _ sf r⟩
      | own ds2 =>
        obtain ⟨q, us2, e2, m0, m, hq2, a2⟩ := o
        have hne : q ≠ p := fun z => h.df i j _ _ hj hi he (by rw [e1, e2, z])
        exact ⟨q, us2, e2, m0, by rw [upd_ne hne]; exact m, hq2, dpAll_mono sf _ _ a2⟩
  · have other : ∀ {j : Nat} {ds1 : List PyData}, (es.set i (.is (Dat K (.list ds))))[j]? = some (.own ds1) → es[j]? = some (.own ds1) := fun {j ds1} hj => by
      by_cases hij : i = j
      · subst hij
        rw [List.getElem?_set_self hl] at hj
        cases hj
      · exact own_at hj hij
    exact h.df j k _ _ hn (other h1) (other h2)
end
end Dl
/-! the calculus: expressions -/
namespace Dl
open PySem PySem.Spec PyProof.Rows L2
variable {X : Cx} {K : PySem.W.Frag} {es : List Ent}
/-! ### what an expression makes -/
def tCan (K : PySem.W.Frag) (es : List Ent) (R : Rel) : TE := fun σ H Q => ∃ F0 H0 F, Sv K es F0 H0 F H σ ∧ ∀ v F' H', Grow F H F' H' → R F' H' v → Q v H'
/-- a new list -/
def tCanL (K : PySem.W.Frag) (es : List Ent) (P : List PyData → Prop) : TE := fun σ H Q => ∃ F0 H0 F, Sv K es F0 H0 F H σ ∧ ∀ p vs ds F' H', Grow F H F' H' → P ds → H p = none → F' p = none → H' p = some (.lst vs) → DpAll K F' vs ds → Q (.ref p) H'
def tCanT (K : PySem.W.Frag) (es : List Ent) (b : Bool) : TT := fun σ H Q => ∃ F0 H0 F, Sv K es F0 H0 F H σ ∧ ∀ F' H', Grow F H F' H' → Q b H'
def ValsR : List Rel → Hp → Hp → List V → Prop
  | [], _, _, [] => True
  | R :: Rs, F, H, v :: vs => R F H v ∧ ValsR Rs F H vs
  | _, _, _, _ => False
def tCanA (K : PySem.W.Frag) (es : List Ent) (Rs : List Rel) : TA := fun σ H Q => ∃ F0 H0 F, Sv K es F0 H0 F H σ ∧ ∀ vs F' H', Grow F H F' H' → ValsR Rs F' H' vs → Q vs H'
def tCanD (K : PySem.W.Frag) (es : List Ent) (ds : List PyData) : TA := fun σ H Q => ∃ F0 H0 F, Sv K es F0 H0 F H σ ∧ ∀ vs F' H', Grow F H F' H' → DpAll K F' vs ds → Q vs H'
theorem pe_imp {e : Expr} {t t' : TE} (h : PE X e t) (k : ∀ σ H Q, t' σ H Q → t σ H Q) : PE X e t' := ⟨fun pins s σ H Q I q => h.run pins s σ H Q I (k _ _ _ q)⟩
theorem pt_imp {e : Expr} {t t' : TT} (h : PT X e t) (k : ∀ σ H Q, t' σ H Q → t σ H Q) : PT X e t' := ⟨fun pins s σ H Q I q => h.run pins s σ H Q I (k _ _ _ q)⟩
theorem pw_imp {e : Expr} {t t' : TT} (h : PW X e t) (k : ∀ σ H Q, t' σ H Q → t σ H Q) : PW X e t' := ⟨fun wh pins s σ H Q I q => h.run wh pins s σ H Q I (k _ _ _ q)⟩
theorem pa_imp {e : List Expr} {t t' : TA} (h : PA X e t) (k : ∀ σ H Q, t' σ H Q → t σ H Q) : PA X e t' := ⟨fun pos pins s σ H Q I q => h.run pos pins s σ H Q I (k _ _ _ q)⟩
/-- a value of which a relation holds at once -/
theorem can_now {R : Rel} {F H : Hp} {v : V} {Q : VK} (sh : Same F H) (r : R F H v) (k : ∀ v F' H', Grow F H F' H' → R F' H' v → Q v H') : Q v H := k v F H (Grow.refl sh) r
theorem e_weak {e : Expr} {R R' : Rel} (h : PE X e (tCan K es R)) (w : ∀ F H v, Same F H → R F H v → R' F H v) : PE X e (tCan K es R') :=
  pe_imp h fun σ H Q ⟨F0, H0, F, S, k⟩ => ⟨F0, H0, F, S, fun v F' H' g r => k v F' H' g (w _ _ _ g.fh r)⟩
theorem e_sqd {e : Expr} {ds : List PyData} (h : PE X e (tCan K es (Dat K (.tuple ds)))) : PE X e (tCan K es (Sqd K ds)) := e_weak h fun F H v s r => by
  obtain ⟨p, vs, e, hs, ha⟩ := dat_tup r
  exact ⟨p, vs, e, .inr (seqT s hs), ha⟩
theorem e_sqdL {e : Expr} {ds : List PyData} (h : PE X e (tCan K es (Lsd K ds))) : PE X e (tCan K es (Sqd K ds)) := e_weak h fun F H v s ⟨p, vs, e, hs, ha⟩ => ⟨p, vs, e, .inl hs, ha⟩
theorem e_lsd {e : Expr} {ds : List PyData} (h : PE X e (tCan K es (Dat K (.list ds)))) : PE X e (tCan K es (Lsd K ds)) := e_weak h fun F H v s r => by
  obtain ⟨p, vs, e, hs, ha⟩ := dat_lst r
  exact ⟨p, vs, e, s.seq hs, ha⟩
theorem e_lsdT {e : Expr} {ds : List PyData} (h : PE X e (tCan K es (Trk K ds))) : PE X e (tCan K es (Lsd K ds)) := e_weak h fun F H v s ⟨p, vs, e, hs, ha⟩ => ⟨p, vs, e, .inl (.inl hs), ha⟩
/-- a new list read as a tracked list -/
theorem e_trk {e : Expr} {ds : List PyData} (h : PE X e (tCanL K es (· = ds))) : PE X e (tCan K es (Trk K ds)) :=
  pe_imp h fun σ H Q ⟨F0, H0, F, S, k⟩ => ⟨F0, H0, F, S, fun p vs ds' F' H' g eq n n' hp a => k _ F' H' g ⟨p, vs, rfl, hp, eq ▸ a⟩⟩
/-- a new list that nobody will change -/
theorem e_datL {e : Expr} {ds : List PyData} (h : PE X e (tCanL K es (· = ds))) : PE X e (tCan K es (Dat K (.list ds))) :=
  pe_imp h fun σ H Q ⟨F0, H0, F, S, k⟩ => ⟨F0, H0, F, S, fun p vs ds' F' H' g eq n n' hp a => k _ (upd F' p (.lst vs)) H' (g.keep n n' hp) (.lst (.inl (.inl upd_same)) (dpAll_mono (same_new n') _ _ (eq ▸ a)))⟩
/-- there is some data -/
def ExD (K : PySem.W.Frag) (P : PyData → Prop) : Rel := fun F _ v => ∃ d, P d ∧ Dp K F v d
instance {P : PyData → Prop} : PerR (ExD K P) := ⟨fun _ _ _ _ _ g ⟨d, p, h⟩ => ⟨d, p, dp_mono g _ _ h⟩⟩
theorem e_exL {e : Expr} {P : List PyData → Prop} (h : PE X e (tCanL K es P)) : PE X e (tCan K es (ExD K fun d => ∃ ds, d = .list ds ∧ P ds)) :=
  pe_imp h fun σ H Q ⟨F0, H0, F, S, k⟩ => ⟨F0, H0, F, S, fun p vs ds' F' H' g eq n n' hp a => k _ (upd F' p (.lst vs)) H' (g.keep n n' hp) ⟨_, ⟨ds', rfl, eq⟩, .lst (.inl (.inl upd_same)) (dpAll_mono (same_new n') _ _ a)⟩⟩
/-- the pattern of new lists that are made at the end -/
theorem new_at {F H F1 H1 : Hp} {vs : List V} {ds : List PyData} {P : List PyData → Prop} {Q : VK} (g : Grow F H F1 H1) (pd : P ds) (a : DpAll K F1 vs ds)
    (k : ∀ p vs ds F' H', Grow F H F' H' → P ds → H p = none → F' p = none → H' p = some (.lst vs) → DpAll K F' vs ds → Q (.ref p) H') : ∀ p, H1 p = none → Q (.ref p) (upd H1 p (.lst vs)) := fun p n =>
  k p vs ds F1 _ (g.trans (Grow.newH g.fh n)) pd (g.hh.free n) (g.fh.free n) upd_same a
theorem tup_at {F H F1 H1 : Hp} {vs : List V} {ds : List PyData} {Q : VK} (g : Grow F H F1 H1) (a : DpAll K F1 vs ds)
    (k : ∀ v F' H', Grow F H F' H' → Dat K (.tuple ds) F' H' v → Q v H') : ∀ p, H1 p = none → Q (.ref p) (upd H1 p (.tup vs)) := fun p n =>
  k _ (upd F1 p (.tup vs)) _ (g.trans (Grow.new g.fh n)) (.tup (.inl (.inl upd_same)) (dpAll_mono (same_new (g.fh.free n)) _ _ a))

theorem e_is {e : Expr} {d d' : PyData} (h : PE X e (tCan K es (Dat K d))) (q : d = d') : PE X e (tCan K es (Dat K d')) := q ▸ h
theorem e_isL {e : Expr} {d d' : List PyData} (h : PE X e (tCanL K es (· = d))) (q : d = d') : PE X e (tCanL K es (· = d')) := q ▸ h
theorem t_is {e : Expr} {d d' : Bool} (h : PT X e (tCanT K es d)) (q : d = d') : PT X e (tCanT K es d') := q ▸ h
/-! ### leaves -/
theorem e_v (i : Nat) {R : Rel} {x : Str} {pos : Pos} (h : es[i]? = some (.is R) := by rfl) (hN : X.N[i]? = some x := by rfl) (hv : Vis X.env.scope x := by first | exact Or.inl rfl | exact Or.inr (Or.inl rfl) | exact Or.inr (Or.inr rfl)) (hd : (x == ("__debug__" : Str)) = false := by decide)
    (hcd : (x == ("__classdict__" : Str)) = false := by decide) : PE X (.Name x pos) (tCan K es R) :=
  pe_imp (pe_var hN hv hd hcd) fun σ H Q ⟨F0, H0, F, S, k⟩ => by
    obtain ⟨m, v, e, r⟩ := S.ok i _ h
    exact ⟨v, e, can_now S.fh r k⟩
theorem e_o (i : Nat) {ds : List PyData} {x : Str} {pos : Pos} (h : es[i]? = some (.own ds) := by rfl) (hN : X.N[i]? = some x := by rfl) (hv : Vis X.env.scope x := by first | exact Or.inl rfl | exact Or.inr (Or.inl rfl) | exact Or.inr (Or.inr rfl)) (hd : (x == ("__debug__" : Str)) = false := by decide)
    (hcd : (x == ("__classdict__" : Str)) = false := by decide) : PE X (.Name x pos) (tCan K es (Trk K ds)) :=
  pe_imp (pe_var hN hv hd hcd) fun σ H Q ⟨F0, H0, F, S, k⟩ => by
    obtain ⟨p, vs, e, n0, n, hp, a⟩ := S.ok i _ h
    exact ⟨_, e, can_now (R := Trk K ds) S.fh ⟨p, vs, rfl, hp, a⟩ k⟩
theorem e_c {e : Expr} {v : V} {R : Rel} (h : PE X e (tC v)) (r : ∀ F H, R F H v) : PE X e (tCan K es R) := pe_imp h fun σ H Q ⟨F0, H0, F, S, k⟩ => can_now S.fh (r F H) k
theorem e_int {i : Int} {j : Nat} {pos : Pos} : PE X (.Constant (.int i) j pos) (tCan K es (Dat K (.int i))) := e_c pe_int fun _ _ => .int _
theorem e_str {x : Str} {j : Nat} {pos : Pos} : PE X (.Constant (.str x) j pos) (tCan K es (Dat K (.str x))) := e_c pe_str fun _ _ => .str _
theorem e_bl {b : Bool} {j : Nat} {pos : Pos} : PE X (.Constant (.bool b) j pos) (tCan K es (Dat K (.bool b))) := e_c pe_bl fun _ _ => .bl _
theorem e_non {j : Nat} {pos : Pos} : PE X (.Constant .none j pos) (tCan K es (Dat K .none)) := e_c pe_non fun _ _ => .non
/-- a name of the module -/
structure GlD (K : PySem.W.Frag) (mg : Str → Option Value) (x : Str) (d : PyData) : Prop where
  ex : ∃ (u : Value) (v : V), mg x = some u ∧ RelV v u ∧ Dp K (fun _ => none) v d
theorem e_g {x : Str} {d : PyData} {pos : Pos} (h : GlD K X.mg x d) (hg : Gl X x := by rfl) (hd : (x == ("__debug__" : Str)) = false := by decide) : PE X (.Name x pos) (tCan K es (Dat K d)) := by
  obtain ⟨u, v, hm, r, p⟩ := h.ex
  exact e_c (pe_glob hg hm r hd) fun F H => dp_mono (fun _ _ z => by cases z) _ _ p

/-! ### operators -/
theorem can2 {r : R2} {Ra Rb R : Rel} [MonoR Ra] (h : ∀ x y F H (Q : VK), Same F H → Ra F H x → Rb F H y → (∀ v F' H', Grow F H F' H' → R F' H' v → Q v H') → r x y H Q) (σ : L2.St) (H : Hp) (Q : VK) (q : tCan K es R σ H Q) : tOp r (tCan K es Ra) (tCan K es Rb) σ H Q := by
  obtain ⟨F0, H0, F, S, k⟩ := q
  refine ⟨F0, H0, F, S, fun x F1 H1 g1 r1 => ⟨F0, H0, F1, S.grow g1, fun y F2 H2 g2 r2 => ?_⟩⟩
  exact h x y F2 H2 Q g2.fh (MonoR.m _ _ _ _ _ g2 r1) r2 fun v F' H' g r => k v F' H' ((g1.trans g2).trans g) r
theorem can2L {r : R2} {Ra Rb : Rel} {P : List PyData → Prop} [MonoR Ra] (h : ∀ x y F H (Q : VK), Same F H → Ra F H x → Rb F H y → (∀ p vs ds F' H', Grow F H F' H' → P ds → H p = none → F' p = none → H' p = some (.lst vs) → DpAll K F' vs ds → Q (.ref p) H') → r x y H Q) (σ : L2.St) (H : Hp) (Q : VK) (q : tCanL K es P σ H Q) : tOp r (tCan K es Ra) (tCan K es Rb) σ H Q := by
  obtain ⟨F0, H0, F, S, k⟩ := q
  refine ⟨F0, H0, F, S, fun x F1 H1 g1 r1 => ⟨F0, H0, F1, S.grow g1, fun y F2 H2 g2 r2 => ?_⟩⟩
  exact h x y F2 H2 Q g2.fh (MonoR.m _ _ _ _ _ g2 r1) r2 fun p vs ds F' H' g pd n n' hp a => k p vs ds F' H' ((g1.trans g2).trans g) pd ((g1.trans g2).hh.free n) n' hp a
variable {a b : Expr} {pos : Pos}
theorem e_op {op : Operator} {r : R2} {Ra Rb R : Rel} [MonoR Ra] (ho : OpR X (binaryOp op) r) (ha : PE X a (tCan K es Ra)) (hb : PE X b (tCan K es Rb))
    (h : ∀ x y F H (Q : VK), Same F H → Ra F H x → Rb F H y → (∀ v F' H', Grow F H F' H' → R F' H' v → Q v H') → r x y H Q) : PE X (.BinOp a op b pos) (tCan K es R) := pe_imp (pe_op ho ha hb) (can2 h)
theorem dat_int {i : Int} {F H : Hp} {v : V} (h : Dat K (.int i) F H v) : v = .int i := by cases h; rfl
theorem dat_str {i : Str} {F H : Hp} {v : V} (h : Dat K (.str i) F H v) : v = .str i := by cases h; rfl
theorem dat_bl {i : Bool} {F H : Hp} {v : V} (h : Dat K (.bool i) F H v) : v = .bl i := by cases h; rfl
theorem dat_non {F H : Hp} {v : V} (h : Dat K .none F H v) : v = .non := by cases h; rfl
theorem e_add {i j : Int} (ha : PE X a (tCan K es (Dat K (.int i)))) (hb : PE X b (tCan K es (Dat K (.int j)))) : PE X (.BinOp a .Add b pos) (tCan K es (Dat K (.int (i + j)))) :=
  e_op op_add ha hb fun x y F H Q s hx hy k => ⟨i, j, dat_int hx, dat_int hy, can_now s (Dp.int _) k⟩
/-- of two, the data -/
class AsD (R : Rel) (K : outParam PySem.W.Frag) (d : outParam PyData) : Prop where
  m : ∀ F H v, Same F H → R F H v → Dp K H v d
instance {d : PyData} : AsD (Dat K d) K d := ⟨fun _ _ _ s h => dp_mono s _ _ h⟩
instance {ds : List PyData} : AsD (Lsd K ds) K (.list ds) := ⟨fun _ _ _ s ⟨p, vs, e, h, a⟩ => e ▸ .lst h (dpAll_mono s _ _ a)⟩
instance {ds : List PyData} : AsD (Trk K ds) K (.list ds) := ⟨fun _ _ _ s ⟨p, vs, e, h, a⟩ => e ▸ .lst (.inl (.inl h)) (dpAll_mono s _ _ a)⟩
section
variable {Ra Rb : Rel} {d e : PyData} [MonoR Ra]
theorem e_eq {K1 K2 : PySem.W.Frag} [AsD Ra K1 d] [AsD Rb K2 e] (hu : X.A.units + 64 < cLine) (ha : PE X a (tCan X.K es Ra)) (hb : PE X b (tCan X.K es Rb)) (sd : SeqAt.shaped d = true) (se : SeqAt.shaped e = true) (hm : behindInMarks .Eq b = false) (h1 : X.K = K1 := by rfl) (h2 : X.K = K2 := by rfl) : PE X (.Compare a [.Eq] [b] pos) (tCan X.K es (Dat X.K (.bool (PyData.eqv d e)))) :=
  pe_imp (pe_cmpR (op_eqD hu) ha hb hm) (can2 fun x y F H Q s hx hy k => ⟨d, e, h1 ▸ AsD.m _ _ _ s hx, h2 ▸ AsD.m _ _ _ s hy, sd, se, can_now s (Dp.bl _) k⟩)
theorem e_ne {K1 K2 : PySem.W.Frag} [AsD Ra K1 d] [AsD Rb K2 e] (hu : X.A.units + 64 < cLine) (ha : PE X a (tCan X.K es Ra)) (hb : PE X b (tCan X.K es Rb)) (sd : SeqAt.shaped d = true) (se : SeqAt.shaped e = true) (hm : behindInMarks .NotEq b = false) (h1 : X.K = K1 := by rfl) (h2 : X.K = K2 := by rfl) : PE X (.Compare a [.NotEq] [b] pos) (tCan X.K es (Dat X.K (.bool (!PyData.eqv d e)))) :=
  pe_imp (pe_cmpR (op_neD hu) ha hb hm) (can2 fun x y F H Q s hx hy k => ⟨d, e, h1 ▸ AsD.m _ _ _ s hx, h2 ▸ AsD.m _ _ _ s hy, sd, se, can_now s (Dp.bl _) k⟩)
theorem t_of {e : Expr} {b : Bool} {t : TE} (h : PT X e (tTest t)) (k : ∀ σ H Q, tCan K es (Dat K (.bool b)) σ H Q → t σ H Q) : PT X e (tCanT K es b) :=
  pt_imp h fun σ H Q ⟨F0, H0, F, S, q⟩ => k _ _ _ ⟨F0, H0, F, S, fun v F' H' g r => ⟨b, dat_bl r, q F' H' g⟩⟩
theorem t_eq {K1 K2 : PySem.W.Frag} [AsD Ra K1 d] [AsD Rb K2 e] (hu : X.A.units + 64 < cLine) (ha : PE X a (tCan X.K es Ra)) (hb : PE X b (tCan X.K es Rb)) (sd : SeqAt.shaped d = true) (se : SeqAt.shaped e = true) (hm : behindInMarks .Eq b = false) (h1 : X.K = K1 := by rfl) (h2 : X.K = K2 := by rfl) : PT X (.Compare a [.Eq] [b] pos) (tCanT X.K es (PyData.eqv d e)) :=
  t_of (pt_cmpR (op_eqD hu) ha hb hm) (can2 fun x y F H Q s hx hy k => ⟨d, e, h1 ▸ AsD.m _ _ _ s hx, h2 ▸ AsD.m _ _ _ s hy, sd, se, can_now s (Dp.bl _) k⟩)
theorem t_ne {K1 K2 : PySem.W.Frag} [AsD Ra K1 d] [AsD Rb K2 e] (hu : X.A.units + 64 < cLine) (ha : PE X a (tCan X.K es Ra)) (hb : PE X b (tCan X.K es Rb)) (sd : SeqAt.shaped d = true) (se : SeqAt.shaped e = true) (hm : behindInMarks .NotEq b = false) (h1 : X.K = K1 := by rfl) (h2 : X.K = K2 := by rfl) : PT X (.Compare a [.NotEq] [b] pos) (tCanT X.K es (!PyData.eqv d e)) :=
  t_of (pt_cmpR (op_neD hu) ha hb hm) (can2 fun x y F H Q s hx hy k => ⟨d, e, h1 ▸ AsD.m _ _ _ s hx, h2 ▸ AsD.m _ _ _ s hy, sd, se, can_now s (Dp.bl _) k⟩)
end
/-! x in a tuple, in a list, of data -/
def rInDT (K : PySem.W.Frag) : R2 := fun x y H Q => ∃ d ds, Dp K H x d ∧ Dp K H y (.tuple ds) ∧ SeqAt.shaped d = true ∧ SeqAt.shaped (.tuple ds) = true ∧ Q (.bl (ds.any fun z => PyData.eqv z d)) H
def rNotInDT (K : PySem.W.Frag) : R2 := fun x y H Q => ∃ d ds, Dp K H x d ∧ Dp K H y (.tuple ds) ∧ SeqAt.shaped d = true ∧ SeqAt.shaped (.tuple ds) = true ∧ Q (.bl (!ds.any fun z => PyData.eqv z d)) H
theorem op_inDT (hu : X.A.units + 65 < cLine) : OpR X (compareOp .In) (rInDT X.K) := by
  intro pins s σ H x y v u Q I rx ry h
  obtain ⟨d, ds, hd, he, sd, se, q⟩ := h
  obtain ⟨as, r1⟩ := Dp.reads I d x v hd rx
  obtain ⟨bs, r2⟩ := Dp.reads I (.tuple ds) y u he ry
  exact SeqAt.in_tuple_reads r2 r1 (SeqAt.canLay_of_shaped se) (SeqAt.canLay_of_shaped sd) (room_in_shaped sd hu) ⟨.bl _, H, I, rfl, q⟩
theorem op_notInDT (hu : X.A.units + 65 < cLine) : OpR X (compareOp .NotIn) (rNotInDT X.K) := by
  intro pins s σ H x y v u Q I rx ry h
  obtain ⟨d, ds, hd, he, sd, se, q⟩ := h
  obtain ⟨as, r1⟩ := Dp.reads I d x v hd rx
  obtain ⟨bs, r2⟩ := Dp.reads I (.tuple ds) y u he ry
  exact SeqAt.notIn_tuple_reads r2 r1 (SeqAt.canLay_of_shaped se) (SeqAt.canLay_of_shaped sd) (room_in_shaped sd hu) ⟨.bl _, H, I, rfl, q⟩
section
variable {Ra Rb : Rel} {d : PyData} {ds : List PyData} [MonoR Ra]
theorem t_inT {K1 K2 : PySem.W.Frag} [AsD Ra K1 d] [AsD Rb K2 (.tuple ds)] (hu : X.A.units + 65 < cLine) (ha : PE X a (tCan X.K es Ra)) (hb : PE X b (tCan X.K es Rb)) (sd : SeqAt.shaped d = true) (se : SeqAt.shaped (.tuple ds) = true) (hm : behindInMarks .In b = false := by with_unfolding_all rfl) (h1 : X.K = K1 := by rfl) (h2 : X.K = K2 := by rfl) : PT X (.Compare a [.In] [b] pos) (tCanT X.K es (ds.any fun z => PyData.eqv z d)) :=
  t_of (pt_cmpR (op_inDT hu) ha hb hm) (can2 fun x y F H Q s hx hy k => ⟨d, ds, h1 ▸ AsD.m _ _ _ s hx, h2 ▸ AsD.m _ _ _ s hy, sd, se, can_now s (Dp.bl _) k⟩)
theorem t_ninT {K1 K2 : PySem.W.Frag} [AsD Ra K1 d] [AsD Rb K2 (.tuple ds)] (hu : X.A.units + 65 < cLine) (ha : PE X a (tCan X.K es Ra)) (hb : PE X b (tCan X.K es Rb)) (sd : SeqAt.shaped d = true) (se : SeqAt.shaped (.tuple ds) = true) (hm : behindInMarks .NotIn b = false := by with_unfolding_all rfl) (h1 : X.K = K1 := by rfl) (h2 : X.K = K2 := by rfl) : PT X (.Compare a [.NotIn] [b] pos) (tCanT X.K es (!ds.any fun z => PyData.eqv z d)) :=
  t_of (pt_cmpR (op_notInDT hu) ha hb hm) (can2 fun x y F H Q s hx hy k => ⟨d, ds, h1 ▸ AsD.m _ _ _ s hx, h2 ▸ AsD.m _ _ _ s hy, sd, se, can_now s (Dp.bl _) k⟩)
theorem t_inL {K1 K2 : PySem.W.Frag} [AsD Ra K1 d] [AsD Rb K2 (.list ds)] (hu : X.A.units + 65 < cLine) (ha : PE X a (tCan X.K es Ra)) (hb : PE X b (tCan X.K es Rb)) (sd : SeqAt.shaped d = true) (se : SeqAt.shaped (.list ds) = true) (hm : behindInMarks .In b = false := by with_unfolding_all rfl) (h1 : X.K = K1 := by rfl) (h2 : X.K = K2 := by rfl) : PT X (.Compare a [.In] [b] pos) (tCanT X.K es (ds.any fun z => PyData.eqv z d)) :=
  t_of (pt_cmpR (op_inD hu) ha hb hm) (can2 fun x y F H Q s hx hy k => ⟨d, ds, h1 ▸ AsD.m _ _ _ s hx, h2 ▸ AsD.m _ _ _ s hy, sd, se, can_now s (Dp.bl _) k⟩)
theorem t_ninL {K1 K2 : PySem.W.Frag} [AsD Ra K1 d] [AsD Rb K2 (.list ds)] (hu : X.A.units + 65 < cLine) (ha : PE X a (tCan X.K es Ra)) (hb : PE X b (tCan X.K es Rb)) (sd : SeqAt.shaped d = true) (se : SeqAt.shaped (.list ds) = true) (hm : behindInMarks .NotIn b = false := by with_unfolding_all rfl) (h1 : X.K = K1 := by rfl) (h2 : X.K = K2 := by rfl) : PT X (.Compare a [.NotIn] [b] pos) (tCanT X.K es (!ds.any fun z => PyData.eqv z d)) :=
  t_of (pt_cmpR (op_notInD hu) ha hb hm) (can2 fun x y F H Q s hx hy k => ⟨d, ds, h1 ▸ AsD.m _ _ _ s hx, h2 ▸ AsD.m _ _ _ s hy, sd, se, can_now s (Dp.bl _) k⟩)
theorem e_inT {K1 K2 : PySem.W.Frag} [AsD Ra K1 d] [AsD Rb K2 (.tuple ds)] (hu : X.A.units + 65 < cLine) (ha : PE X a (tCan X.K es Ra)) (hb : PE X b (tCan X.K es Rb)) (sd : SeqAt.shaped d = true) (se : SeqAt.shaped (.tuple ds) = true) (hm : behindInMarks .In b = false := by with_unfolding_all rfl) (h1 : X.K = K1 := by rfl) (h2 : X.K = K2 := by rfl) : PE X (.Compare a [.In] [b] pos) (tCan X.K es (Dat X.K (.bool (ds.any fun z => PyData.eqv z d)))) :=
  pe_imp (pe_cmpR (op_inDT hu) ha hb hm) (can2 fun x y F H Q s hx hy k => ⟨d, ds, h1 ▸ AsD.m _ _ _ s hx, h2 ▸ AsD.m _ _ _ s hy, sd, se, can_now s (Dp.bl _) k⟩)
theorem e_inL {K1 K2 : PySem.W.Frag} [AsD Ra K1 d] [AsD Rb K2 (.list ds)] (hu : X.A.units + 65 < cLine) (ha : PE X a (tCan X.K es Ra)) (hb : PE X b (tCan X.K es Rb)) (sd : SeqAt.shaped d = true) (se : SeqAt.shaped (.list ds) = true) (hm : behindInMarks .In b = false := by with_unfolding_all rfl) (h1 : X.K = K1 := by rfl) (h2 : X.K = K2 := by rfl) : PE X (.Compare a [.In] [b] pos) (tCan X.K es (Dat X.K (.bool (ds.any fun z => PyData.eqv z d)))) :=
  pe_imp (pe_cmpR (op_inD hu) ha hb hm) (can2 fun x y F H Q s hx hy k => ⟨d, ds, h1 ▸ AsD.m _ _ _ s hx, h2 ▸ AsD.m _ _ _ s hy, sd, se, can_now s (Dp.bl _) k⟩)
end
/-- is None, is not None -/
def isNon : PyData → Bool
  | .none => true
  | _ => false
theorem t_isN {d : PyData} (ha : PE X a (tCan K es (Dat K d))) (hb : PE X b (tCan K es (Dat K .none))) (hm : behindInMarks .Is b = false) : PT X (.Compare a [.Is] [b] pos) (tCanT K es (isNon d)) :=
  t_of (pt_cmpR op_isN ha hb hm) (can2 fun x y F H Q s hx hy k => ⟨dat_non hy, by
    have e : decide (x = V.non) = (isNon d) := by
      cases hx <;> simp [isNon]
    rw [e]
    exact can_now (R := Dat K (.bool _)) s (Dp.bl _) k⟩)
theorem t_notN {d : PyData} (ha : PE X a (tCan K es (Dat K d))) (hb : PE X b (tCan K es (Dat K .none))) (hm : behindInMarks .IsNot b = false) : PT X (.Compare a [.IsNot] [b] pos) (tCanT K es (!isNon d)) :=
  t_of (pt_cmpR op_notN ha hb hm) (can2 fun x y F H Q s hx hy k => ⟨dat_non hy, by
    have e : (!decide (x = V.non)) = (!isNon d) := by
      cases hx <;> simp [isNon]
    rw [e]
    exact can_now (R := Dat K (.bool _)) s (Dp.bl _) k⟩)
/-! subscripts -/
theorem e_ixT {ds : List PyData} {i : Int} {d : PyData} (ha : PE X a (tCan X.K es (Dat X.K (.tuple ds)))) (hb : PE X b (tCan X.K es (Dat X.K (.int i)))) (h0 : 0 ≤ i) (h : ds[i.toNat]? = some d) (hs : PlainIx b := by exact fun _ _ => rfl) : PE X (.Subscript a b pos) (tCan X.K es (Dat X.K d)) :=
  pe_imp (pe_ix ix_tup ha hb hs) (can2 fun x y F H Q s hx hy k => by
    obtain ⟨p, vs, e, hs, ha⟩ := dat_tup hx
    obtain ⟨z, hz, pz⟩ := dpa_ix ha h
    refine ⟨p, vs, i, z, e, dat_int hy, seqT s hs, ?_, can_now (R := Dat X.K d) s pz k⟩
    have := atI_nat hz
    rwa [Int.toNat_of_nonneg h0] at this)
theorem e_ixL {ds : List PyData} {i : Int} {d : PyData} (ha : PE X a (tCan X.K es (Lsd X.K ds))) (hb : PE X b (tCan X.K es (Dat X.K (.int i)))) (h0 : 0 ≤ i) (h : ds[i.toNat]? = some d) (hs : PlainIx b := by exact fun _ _ => rfl) : PE X (.Subscript a b pos) (tCan X.K es (Dat X.K d)) :=
  pe_imp (pe_ix ix_list ha hb hs) (can2 fun x y F H Q s hx hy k => by
    obtain ⟨p, vs, e, hs, ha⟩ := hx
    obtain ⟨z, hz, pz⟩ := dpa_ix ha h
    refine ⟨p, vs, i, z, e, dat_int hy, hs, ?_, can_now (R := Dat X.K d) s pz k⟩
    have := atI_nat hz
    rwa [Int.toNat_of_nonneg h0] at this)
/-! displays and arguments -/
theorem d_nil : PA X [] (tCanD K es []) := pa_imp pa_nil fun σ H Q ⟨F0, H0, F, S, k⟩ => k [] F H (Grow.refl S.fh) .nil
theorem d_cons {e : Expr} {r : List Expr} {d : PyData} {ds : List PyData} (h : PE X e (tCan K es (Dat K d))) (t : PA X r (tCanD K es ds)) (hs : starEach (e :: r) X.env = (false, eval e X.env) :: starEach r X.env := by rfl) : PA X (e :: r) (tCanD K es (d :: ds)) :=
  pa_imp (pa_cons h t hs) fun σ H Q ⟨F0, H0, F, S, k⟩ => ⟨F0, H0, F, S, fun x F1 H1 g1 r1 => ⟨F0, H0, F1, S.grow g1, fun vs F2 H2 g2 r2 => k _ F2 H2 (g1.trans g2) (.cons (dp_mono g2.ff _ _ r1) r2)⟩⟩
theorem a_nil : PA X [] (tCanA K es []) := pa_imp pa_nil fun σ H Q ⟨F0, H0, F, S, k⟩ => k [] F H (Grow.refl S.fh) trivial
theorem a_cons {e : Expr} {r : List Expr} {R : Rel} {Rs : List Rel} [m : MonoR R] (h : PE X e (tCan K es R)) (t : PA X r (tCanA K es Rs)) (hs : starEach (e :: r) X.env = (false, eval e X.env) :: starEach r X.env := by rfl) : PA X (e :: r) (tCanA K es (R :: Rs)) :=
  pa_imp (pa_cons h t hs) fun σ H Q ⟨F0, H0, F, S, k⟩ => ⟨F0, H0, F, S, fun x F1 H1 g1 r1 => ⟨F0, H0, F1, S.grow g1, fun vs F2 H2 g2 r2 => k _ F2 H2 (g1.trans g2) ⟨m.m _ _ _ _ _ g2 r1, r2⟩⟩⟩
theorem e_tup {l : List Expr} {j : Nat} {ds : List PyData} (h : PA X l (tCanD K es ds)) (hz : ds.length ≤ 100000 := by first | (simp; done) | (simp; omega)) : PE X (.Tuple l j pos) (tCan K es (Dat K (.tuple ds))) :=
  pe_imp (pe_tup h) fun σ H Q ⟨F0, H0, F, S, k⟩ => ⟨F0, H0, F, S, fun vs F1 H1 g1 a => ⟨Nat.le_trans ((dpa_len a) ▸ hz) (by decide), tup_at g1 a k⟩⟩
theorem e_lst {l : List Expr} {ds : List PyData} (h : PA X l (tCanD K es ds)) (hz : ds.length ≤ 100000 := by first | (simp; done) | (simp; omega)) : PE X (.List l pos) (tCanL K es (· = ds)) :=
  pe_imp (pe_lst h) fun σ H Q ⟨F0, H0, F, S, k⟩ => ⟨F0, H0, F, S, fun vs F1 H1 g1 a => ⟨Nat.le_trans ((dpa_len a) ▸ hz) (by decide), new_at (P := (· = ds)) g1 rfl a k⟩⟩
end Dl
/-! the calculus: what is walked, comprehensions, built-ins, calls -/
namespace Dl
open PySem PySem.Spec PyProof.Rows L2
variable {X : Cx} {K : PySem.W.Frag} {es : List Ent} {a b : Expr} {pos p2 p3 : Pos}
/-! ### slots forgotten -/
def wipeE (es : List Ent) : List Nat → List Ent
  | [] => es
  | v :: vs => (wipeE es vs).set v .no
section
variable {F0 H0 F H : Hp} {σ : L2.St}
theorem Sv.setNo (h : Sv K es F0 H0 F H σ) (i : Nat) (x : Option V) : Sv K (es.set i .no) F0 H0 F H (σ.set i x) := by
  refine ⟨h.s0, h.g, by rw [List.length_set, List.length_set]; exact h.len, fun j e he => ?_, fun j k ds ds' hn h1 h2 => ?_⟩
  · by_cases hj : i = j
    · subst hj
      have hl : i < es.length := by
        have := (List.getElem?_eq_some_iff.mp he).1
        rwa [List.length_set] at this
      rw [List.getElem?_set_self hl] at he
      cases he
      trivial
    · rw [List.getElem?_set_ne hj] at he ⊢
      exact h.ok j e he
  · have q : ∀ {j : Nat} {ds : List PyData}, (es.set i Ent.no)[j]? = some (.own ds) → i ≠ j ∧ es[j]? = some (.own ds) := fun {j ds} hj => by
      by_cases hij : i = j
      · subst hij
        have hl : i < es.length := by
          have := (List.getElem?_eq_some_iff.mp hj).1
          rwa [List.length_set] at this
        rw [List.getElem?_set_self hl] at hj
        cases hj
      · rw [List.getElem?_set_ne hij] at hj
        exact ⟨hij, hj⟩
    obtain ⟨a1, a2⟩ := q h1
    obtain ⟨b1, b2⟩ := q h2
    rw [List.getElem?_set_ne a1, List.getElem?_set_ne b1]
    exact h.df j k ds ds' hn a2 b2
theorem Sv.wipe (h : Sv K es F0 H0 F H σ) : ∀ vs, Sv K (wipeE es vs) F0 H0 F H (L2.wipe σ vs)
  | [] => h
  | v :: vs => (Sv.wipe h vs).setNo v _
end
theorem wipe_in {σ : L2.St} {i : Nat} : ∀ {vs : List Nat}, i ∈ vs → i < σ.length → (L2.wipe σ vs)[i]? = some none
  | v :: vs, h, hl => by
    unfold L2.wipe
    by_cases hv : v = i
    · subst hv
      rw [List.getElem?_set_self (by rw [wipe_length]; exact hl)]
    · rw [List.getElem?_set_ne hv]
      rcases List.mem_cons.mp h with z | z
      · exact absurd z.symm hv
      · exact wipe_in z hl
theorem wipe_eq {σ τ : L2.St} (vs : List Nat) (hl : σ.length = τ.length) (h : ∀ i, i ∉ vs → σ[i]? = τ[i]?) : L2.wipe σ vs = L2.wipe τ vs := by
  refine List.ext_getElem? fun i => ?_
  by_cases hi : i ∈ vs
  · by_cases hs : i < σ.length
    · rw [wipe_in hi hs, wipe_in hi (hl ▸ hs)]
    · rw [List.getElem?_eq_none (by rw [wipe_length]; omega), List.getElem?_eq_none (by rw [wipe_length]; omega)]
  · rw [wipe_out hi, wipe_out hi, h i hi]
theorem wipe_idem (σ : L2.St) (vs : List Nat) : L2.wipe (L2.wipe σ vs) vs = L2.wipe σ vs := wipe_eq vs (wipe_length _ _) fun i hi => wipe_out hi
/-! ### targets -/
structure Tg (K : PySem.W.Frag) (g : TG) (d : PyData) (φ : List Ent → List Ent) (js : List Nat) : Prop where
  run : ∀ (es : List Ent) (F0 H0 F H : Hp) (σ : L2.St) (x : V) (Q : L2.St → Hp → Prop), Sv K es F0 H0 F H σ → Dp K F x d →
    (∀ σ' : L2.St, Sv K (φ es) F0 H0 F H σ' → σ'.length = σ.length → (∀ i, i ∉ js → σ'[i]? = σ[i]?) → Q σ' H) → g x σ H Q
theorem tg_name (j : Nat) (d : PyData) : Tg K (gName j) d (fun es => es.set j (.is (Dat K d))) [j] :=
  ⟨fun es F0 H0 F H σ x Q S hd k => k _ (S.set (R := Dat K d) hd) (by rw [List.length_set]) fun i hi => List.getElem?_set_ne fun z => hi (by rw [z]; exact List.mem_singleton_self _)⟩
theorem tg_pair (j l : Nat) (d e : PyData) : Tg K (gTup K 2 (gCons (gName j) (gCons (gName l) gNil))) (.tuple [d, e]) (fun es => (es.set j (.is (Dat K d))).set l (.is (Dat K e))) [j, l] :=
  ⟨fun es F0 H0 F H σ x Q S hd k => by
    cases hd with
    | tup hs ha =>
      cases ha with
      | cons h1 t =>
        cases t with
        | cons h2 t =>
          cases t
          refine ⟨_, _, rfl, seqT S.fh hs, rfl, _, _, rfl, _, _, rfl, rfl, k _ ((S.set (R := Dat K d) h1).set (R := Dat K e) h2) (by rw [List.length_set, List.length_set]) fun i hi => ?_⟩
          simp only [List.mem_cons, List.not_mem_nil, or_false, not_or] at hi
          rw [List.getElem?_set_ne (Ne.symm hi.2), List.getElem?_set_ne (Ne.symm hi.1)]⟩
/-! ### what is walked -/
def WalkD (K : PySem.W.Frag) (J : It) (F1 : Hp) (ds : List PyData) : Prop :=
  L2.Walk J ds.length (fun H => Same F1 H) fun i H x H' => ∀ F, Same F1 F → Same F H → ∃ F', Grow F H F' H' ∧ ∃ d, ds[i]? = some d ∧ Dp K F' x d
def tCanI (K : PySem.W.Frag) (es : List Ent) (ds : List PyData) : TI := fun σ H R => ∃ F0 H0 F, Sv K es F0 H0 F H σ ∧ ∀ J F1 H1, Grow F H F1 H1 → WalkD K J F1 ds → R J H1
theorem pi_imp {tg it : Expr} {t t' : TI} (h : PI X tg it t) (k : ∀ σ H R, t' σ H R → t σ H R) : PI X tg it t' := ⟨fun pins s σ H R I q => h.run pins s σ H R I (k _ _ _ q)⟩
theorem walkD_at {J : It} {F1 : Hp} {vs : List V} {ds : List PyData} (w : L2.Walk J vs.length (fun H => Same F1 H) (YAt vs)) (a : DpAll K F1 vs ds) : WalkD K J F1 ds := by
  unfold WalkD
  rw [← dpa_len a]
  refine w.mono (fun _ h => h) fun i H x H' hi g ⟨e, hx⟩ F s1 s2 => ?_
  subst e
  obtain ⟨d, hd, p⟩ := dpa_at a hx
  exact ⟨F, Grow.refl s2, d, hd, dp_mono s1 _ _ p⟩
theorem i_tup {tg : Expr} {ds : List PyData} (h : PE X a (tCan X.K es (Dat X.K (.tuple ds)))) : PI X tg a (tCanI X.K es ds) :=
  pi_imp (pi_tup h) fun σ H R ⟨F0, H0, F, S, k⟩ => ⟨F0, H0, F, S, fun x F1 H1 g r => by
    obtain ⟨p, vs, e, hs, ha⟩ := dat_tup r
    exact ⟨p, e, ⟨vs, seqT g.fh hs⟩, k _ F1 H1 g (walkD_at (walk_tup.mono (fun _ s => seqT s hs) fun _ _ _ _ _ _ y => y) ha)⟩⟩
theorem i_lst {tg : Expr} {ds : List PyData} (h : PE X a (tCan X.K es (Dat X.K (.list ds)))) : PI X tg a (tCanI X.K es ds) :=
  pi_imp (pi_list h) fun σ H R ⟨F0, H0, F, S, k⟩ => ⟨F0, H0, F, S, fun x F1 H1 g r => by
    obtain ⟨p, vs, e, hs, ha⟩ := dat_lst r
    exact ⟨p, e, ⟨vs, g.fh.seq hs⟩, k _ F1 H1 g (walkD_at (walk_list.mono (fun _ s => s.seq hs) fun _ _ _ _ _ _ y => y) ha)⟩⟩
theorem one_arg {vs : List V} {d : PyData} {F : Hp} (h : DpAll K F vs [d]) : ∃ v, vs = [v] ∧ Dp K F v d := by
  cases h with
  | cons h t => cases t; exact ⟨_, rfl, h⟩
theorem i_range {tg e : Expr} {n : Int} (hm : X.mg "range" = none) (h : PA X [e] (tCanD X.K es [.int n])) (hn : n ≤ 100000) (h0 : 0 ≤ n) (hg : Gl X "range" := by rfl) (hs : starEach [e] X.env = [(false, eval e X.env)] := by rfl) :
    PI X tg (.Call (.Name "range" p2) [e] [] pos) (tCanI X.K es ((List.range n.toNat).map fun i => .int (i : Nat))) :=
  pi_imp (pi_range1 hg hm h hs) fun σ H R ⟨F0, H0, F, S, k⟩ => ⟨F0, H0, F, S, fun vs F1 H1 g r => by
    obtain ⟨v, rfl, hv⟩ := one_arg r
    cases hv
    refine ⟨n, rfl, by omega, by omega, k _ F1 H1 g ?_⟩
    unfold WalkD
    rw [List.length_map, List.length_range]
    refine walk_range.mono (fun _ _ => trivial) fun i H x H' hi _ y F s1 s2 => ?_
    obtain ⟨e, rfl⟩ := y
    subst e
    refine ⟨F, Grow.refl s2, .int (i : Nat), by rw [List.getElem?_map, List.getElem?_range hi]; rfl, ?_⟩
    show Dp X.K F (.int (0 + (i : Nat))) (.int (i : Nat))
    rw [Int.zero_add]
    exact .int _⟩
theorem dp_pair {F H : Hp} {T : Addr} {x y : V} {d e : PyData} (s : Same F H) (n : H T = none) (hx : Dp K F x d) (hy : Dp K F y e) : Dp K (upd F T (.tup [x, y])) (.ref T) (.tuple [d, e]) :=
  have m : Same F (upd F T (.tup [x, y])) := same_new (s.free n)
  .tup (.inl (.inl upd_same)) (.cons (dp_mono m _ _ hx) (.cons (dp_mono m _ _ hy) .nil))
theorem i_enum {ι : Type} {xs : List ι} {enc : ι → PyData} {elts : List Expr} {kk : Nat} {e : Expr} (hm : X.mg "enumerate" = none) (h : PA X [e] (tCanD X.K es [.tuple (xs.map enc)])) (hg : Gl X "enumerate" := by rfl) (hs : starEach [e] X.env = [(false, eval e X.env)] := by rfl) :
    PI X (.Tuple elts kk p3) (.Call (.Name "enumerate" p2) [e] [] pos) (tCanI X.K es (xs.zipIdx.map fun p => .tuple [.int (p.2 : Nat), enc p.1])) :=
  pi_imp (Sbx.pi_enumT hm h hg hs) fun σ H R ⟨F0, H0, F, S, k⟩ => ⟨F0, H0, F, S, fun vs F1 H1 g r => by
    obtain ⟨v, rfl, hv⟩ := one_arg r
    obtain ⟨p, vs, rfl, hs, ha⟩ := dat_tup (H := H1) hv
    refine ⟨p, vs, rfl, seqT g.fh hs, k _ F1 H1 g ?_⟩
    unfold WalkD
    rw [List.length_map, List.length_zipIdx, ← List.length_map (f := enc), ← dpa_len ha]
    refine Sbx.walk_enumT.mono (fun _ s => seqT s hs) fun i H x H' hi _ y F s1 s2 => ?_
    obtain ⟨T, x, y, rfl, n, rfl, e1, e2⟩ := y
    cases e1
    obtain ⟨d, hd, pd⟩ := dpa_at ha e2
    rw [List.getElem?_map] at hd
    cases hx : xs[i]? with
    | none => rw [hx] at hd; cases hd
    | some z =>
      rw [hx] at hd
      cases hd
      refine ⟨_, Grow.new s2 n, .tuple [.int (i : Nat), enc z], ?_, dp_pair s2 n (.int _) (dp_mono s1 _ _ pd)⟩
      rw [List.getElem?_map, List.getElem?_zipIdx, hx]
      simp⟩
theorem walk_zipT {a b : Addr} {xs ys : List V} {n : Nat} (hn : n = min xs.length ys.length) : L2.Walk (RZ.ItzT K a b) n (fun H => SqT K H a xs ∧ SqT K H b ys) (YPair (fun i => xs[i]?) (fun i => ys[i]?)) := by
  subst hn
  refine ⟨fun i _ hi q => ?_, fun _ q => ⟨xs, ys, q.1, q.2, by omega⟩, fun i H v H' _ q y => ?_⟩
  · have h1 : i < xs.length := by omega
    have h2 : i < ys.length := by omega
    exact ⟨xs, ys, xs[i], ys[i], q.1, q.2, by simp [h1], by simp [h2]⟩
  · obtain ⟨T, x, y, h1, h2, h3, h4, h5⟩ := y
    exact ⟨T, x, y, h1, h2, h3, h4 xs q.1, h5 ys q.2⟩
theorem i_zip {ι κ : Type} {xs : List ι} {enc : ι → PyData} {ys : List κ} {enc' : κ → PyData} {elts : List Expr} {kk : Nat} {e e2 : Expr} (hm : X.mg "zip" = none) (h : PA X [e, e2] (tCanD X.K es [.tuple (xs.map enc), .tuple (ys.map enc')])) (hg : Gl X "zip" := by rfl)
    (hs : starEach [e, e2] X.env = (false, eval e X.env) :: starEach [e2] X.env := by rfl) (hpl : (backTo pos (starEach [e2] X.env)).any (·.1) = false := by rfl) :
    PI X (.Tuple elts kk p3) (.Call (.Name "zip" p2) [e, e2] [] pos) (tCanI X.K es ((xs.zip ys).map fun p => .tuple [enc p.1, enc' p.2])) :=
  pi_imp (RZ.pi_zipA hg hm h hs hpl) fun σ H R ⟨F0, H0, F, S, k⟩ => ⟨F0, H0, F, S, fun vs F1 H1 g r => by
    cases r with
    | cons h1 t =>
      obtain ⟨v2, rfl, h2⟩ := one_arg t
      obtain ⟨p, vs, rfl, hs, ha⟩ := dat_tup (H := H1) h1
      obtain ⟨q, us, rfl, hs2, ha2⟩ := dat_tup (H := H1) h2
      refine ⟨p, q, vs, us, rfl, .inr ⟨seqT g.fh hs, seqT g.fh hs2, k _ F1 H1 g ?_⟩⟩
      unfold WalkD
      have l1 := dpa_len ha
      have l2 := dpa_len ha2
      rw [List.length_map] at l1 l2
      rw [List.length_map, List.length_zip, ← l1, ← l2]
      refine (walk_zipT rfl).mono (fun _ s => ⟨seqT s hs, seqT s hs2⟩) fun i H x H' hi _ y F s1 s2 => ?_
      obtain ⟨T, x, y, rfl, n, rfl, e1, e2⟩ := y
      obtain ⟨d, hd, pd⟩ := dpa_at ha e1
      obtain ⟨d2, hd2, pd2⟩ := dpa_at ha2 e2
      rw [List.getElem?_map] at hd hd2
      cases hx : xs[i]? with
      | none => rw [hx] at hd; cases hd
      | some z =>
        cases hy : ys[i]? with
        | none => rw [hy] at hd2; cases hd2
        | some w =>
          rw [hx] at hd
          rw [hy] at hd2
          cases hd
          cases hd2
          refine ⟨_, Grow.new s2 n, .tuple [enc z, enc' w], ?_, dp_pair s2 n (dp_mono s1 _ _ pd) (dp_mono s1 _ _ pd2)⟩
          have hz : (xs.zip ys)[i]? = some (z, w) := List.getElem?_zip_eq_some.mpr ⟨hx, hy⟩
          rw [List.getElem?_map, hz]
          rfl⟩
/-! ### list comprehensions -/
section
variable {ι : Type} {xs : List ι} {enc : ι → PyData} {c : ι → Bool} {f : ι → PyData} {elt tg iter : Expr} {ifs : List Expr} {scope : Scope} {own : List (Str × Nat)} {g : TG} {φ : ι → List Ent → List Ent} {js : List Nat}
theorem take_flt {i : Nat} {x : ι} (h : xs[i]? = some x) : ((xs.take (i + 1)).filter c).map f = ((xs.take i).filter c).map f ++ (if c x = true then [f x] else []) := by
  have e : xs.take (i + 1) = xs.take i ++ [x] := by rw [List.take_add_one, h]; rfl
  rw [e, List.filter_append, List.map_append]
  congr 1
  cases hc : c x <;> simp [List.filter, hc]
theorem lc_can (hz : xs.length ≤ 100000) (ht : ∀ x ∈ xs, Tg K g (enc x) (φ x) js) (hjs : ∀ j ∈ js, j ∈ own.map (·.2)) (σ : L2.St) (H : Hp) (Q : VK) (q : tCanL K es (· = (xs.filter c).map f) σ H Q) :
    tLc (tCanI K es (xs.map enc)) g (fun σ H Q => ∃ x, x ∈ xs ∧ tCanT K (φ x (wipeE es (own.map (·.2)))) (c x) σ H Q)
      (fun σ H Q => ∃ x, (x ∈ xs ∧ c x = true) ∧ tCan K (φ x (wipeE es (own.map (·.2)))) (Dat K (f x)) σ H Q) (own.map (·.2)) σ H Q := by
  obtain ⟨F0, H0, F, S, k⟩ := q
  refine ⟨F0, H0, F, S, fun J F1 H1 g1 w D hD => ?_⟩
  have hlen : (xs.map enc).length = xs.length := List.length_map ..
  unfold WalkD at w
  rw [hlen] at w
  refine lc_it (g := g) (tt := fun σ H Q => ∃ x, x ∈ xs ∧ tCanT K (φ x (wipeE es (own.map (·.2)))) (c x) σ H Q) (te := fun σ H Q => ∃ x, (x ∈ xs ∧ c x = true) ∧ tCan K (φ x (wipeE es (own.map (·.2)))) (Dat K (f x)) σ H Q) (vs := own.map (·.2)) (σ := σ) (H1 := H1) (D := D) (Qd := Q (.ref D)) w (fun i H' => ∃ F' vs, Grow F1 H1 F' H' ∧ F' D = none ∧ H' D = some (.lst vs) ∧ vs.length ≤ i ∧ DpAll K F' vs (((xs.take i).filter c).map f)) ?_ ?_ ?_ ?_
  · exact ⟨F1, [], Grow.newH g1.fh hD, g1.fh.free hD, upd_same, Nat.le_refl _, .nil⟩
  · rintro i H' _ ⟨F', vs, g2, _⟩
    exact g2.ff.trans g2.fh
  · rintro i x H2 H3 hi ⟨F2, vs, g2, n2, hvs, hl, a2⟩ y
    obtain ⟨F3, g3, d, hd, pd⟩ := y F2 g2.ff g2.fh
    have hx : xs[i]? = some xs[i] := List.getElem?_eq_getElem hi
    rw [List.getElem?_map, hx] at hd
    cases hd
    have hxm : xs[i] ∈ xs := List.getElem_mem hi
    have g13 := g2.trans g3
    have n3 : F3 D = none := g3.nw D n2 (by rw [hvs]; exact fun z => by cases z)
    have h3 : H3 D = some (.lst vs) := g3.hh _ _ hvs
    have S3 : Sv K (wipeE es (own.map (·.2))) F0 H0 F3 H3 (L2.wipe σ (own.map (·.2))) := (S.grow (g1.trans g13)).wipe _
    refine (ht _ hxm).run _ F0 H0 F3 H3 _ x _ S3 pd fun σ' S' hl' hσ' => ⟨?_, xs[i], hxm, F0, H0, F3, S', fun F4 H4 g4 => ?_⟩
    · rw [wipe_eq (σ := σ') (τ := L2.wipe σ (own.map (·.2))) _ hl' fun j hj => hσ' j fun z => hj (hjs j z), wipe_idem]
    · have n4 : F4 D = none := g4.nw D n3 (by rw [h3]; exact fun z => by cases z)
      have h4 : H4 D = some (.lst vs) := g4.hh _ _ h3
      rw [take_flt hx]
      cases hc : c xs[i] with
      | false =>
        simp only [Bool.false_eq_true, if_false, List.append_nil]
        exact ⟨F4, vs, g13.trans g4, n4, h4, Nat.le_succ_of_le hl, dpAll_mono (g3.ff.trans g4.ff) _ _ a2⟩
      | true =>
        simp only [if_true]
        refine ⟨xs[i], ⟨hxm, hc⟩, F0, H0, F4, S'.grow g4, fun v F5 H5 g5 r5 => ?_⟩
        have n5 : F5 D = none := g5.nw D n4 (by rw [h4]; exact fun z => by cases z)
        have h5 : H5 D = some (.lst vs) := g5.hh _ _ h4
        have g15 := (g13.trans g4).trans g5
        refine ⟨vs, h5, Nat.lt_of_le_of_lt (Nat.le_trans hl (Nat.le_trans (Nat.le_of_lt hi) hz)) (by decide), F5, vs ++ [v], g15.mut hD n5, n5, upd_same, by rw [List.length_append]; simp; exact hl, ?_⟩
        exact dpa_app (dpAll_mono ((g3.ff.trans g4.ff).trans g5.ff) _ _ a2) (.cons r5 .nil)
  · rintro H' ⟨F', vs, g2, n2, hvs, _, a2⟩
    rw [List.take_length] at a2
    exact k D vs _ F' H' (g1.trans g2) rfl (g1.hh.free hD) n2 hvs a2
theorem e_lc (hc : X.calm = true) (hN : X.N.Nodup) (hi : PI X tg iter (tCanI X.K es (xs.map enc))) (ok : BlkOk X.N X.env.scope scope own)
    (hg : ∀ (s : Shared) (H : Hp) (C : Addr) (cl : List (Str × Addr)) (fp : List Addr), PG (X.blk s H scope (compEnvC scope cl C X.env) fp) tg g) (ht : ∀ x ∈ xs, Tg X.K g (enc x) (φ x) js) (hjs : ∀ j ∈ js, j ∈ own.map (·.2))
    (hcn : ∀ x ∈ xs, ∀ (s : Shared) (H : Hp) (C : Addr) (cl : List (Str × Addr)) (fp : List Addr), PTs (X.blk s H scope (compEnvC scope cl C X.env) fp) ifs (tCanT X.K (φ x (wipeE es (own.map (·.2)))) (c x)))
    (he : ∀ x ∈ xs, c x = true → ∀ (s : Shared) (H : Hp) (C : Addr) (cl : List (Str × Addr)) (fp : List Addr), PE (X.blk s H scope (compEnvC scope cl C X.env) fp) elt (tCan X.K (φ x (wipeE es (own.map (·.2)))) (Dat X.K (f x))))
    (hz : xs.length ≤ 100000) (hs : ∀ x, foldedSetIterable iter X.env x = pure x := by intro _; rfl) :
    PE X (.ListComp elt [⟨tg, iter, ifs, 0⟩] scope pos) (tCanL X.K es (· = (xs.filter c).map f)) :=
  pe_imp (pe_lc hc hN hi ok hg (fun s H C cl fp => ⟨fun pins s' σ H' Q I ⟨x, hx, q⟩ => (hcn x hx s H C cl fp).run pins s' σ H' Q I q⟩)
    (fun s H C cl fp => ⟨fun pins s' σ H' Q I ⟨x, hx, q⟩ => (he x hx.1 hx.2 s H C cl fp).run pins s' σ H' Q I q⟩) hs) (lc_can hz ht hjs)
theorem ts_nil : PTs X [] (tCanT K es true) := ⟨fun pins s σ H Q I ⟨F0, H0, F, S, k⟩ => pts_nil.run pins s σ H Q I (k F H (Grow.refl S.fh))⟩
theorem e_lc0 (hc : X.calm = true) (hN : X.N.Nodup) (hi : PI X tg iter (tCanI X.K es (xs.map enc))) (ok : BlkOk X.N X.env.scope scope own)
    (hg : ∀ (s : Shared) (H : Hp) (C : Addr) (cl : List (Str × Addr)) (fp : List Addr), PG (X.blk s H scope (compEnvC scope cl C X.env) fp) tg g) (ht : ∀ x ∈ xs, Tg X.K g (enc x) (φ x) js) (hjs : ∀ j ∈ js, j ∈ own.map (·.2))
    (he : ∀ x ∈ xs, ∀ (s : Shared) (H : Hp) (C : Addr) (cl : List (Str × Addr)) (fp : List Addr), PE (X.blk s H scope (compEnvC scope cl C X.env) fp) elt (tCan X.K (φ x (wipeE es (own.map (·.2)))) (Dat X.K (f x))))
    (hz : xs.length ≤ 100000) (hs : ∀ x, foldedSetIterable iter X.env x = pure x := by intro _; rfl) :
    PE X (.ListComp elt [⟨tg, iter, [], 0⟩] scope pos) (tCanL X.K es (· = xs.map f)) := by
  have h := e_lc (pos := pos) (c := fun _ => true) (f := f) hc hN hi ok hg ht hjs (fun x _ s H C cl fp => ts_nil) (fun x hx _ => he x hx) hz hs
  rw [List.filter_eq_self.mpr fun _ _ => rfl] at h
  exact h
end
/-! ### tests -/
theorem t_val {e : Expr} {b : Bool} (h : PE X e (tCan K es (Dat K (.bool b)))) (he : ∀ whole, isTrue e X.env whole = (do let v ← whole; standAt e.pos; holding [v] (truthy v)) := by intro _; rfl) : PT X e (tCanT K es b) :=
  pt_imp (pt_val h he) fun σ H Q ⟨F0, H0, F, S, k⟩ => ⟨F0, H0, F, S, fun v F1 H1 g r => ⟨b, dat_bl r, k F1 H1 g⟩⟩
theorem t_not {b : Bool} (h : PT X a (tCanT K es b)) : PT X (.UnaryOp .Not a pos) (tCanT K es (!b)) := pt_imp (pt_not h) fun σ H Q ⟨F0, H0, F, S, k⟩ => ⟨F0, H0, F, S, fun F1 H1 g => k F1 H1 g⟩
theorem e_not {c : Bool} (h : PE X a (tCan K es (Dat K (.bool c)))) : PE X (.UnaryOp .Not a pos) (tCan K es (Dat K (.bool (!c)))) :=
  pe_imp (pe_not h) fun σ H Q ⟨F0, H0, F, S, k⟩ => ⟨F0, H0, F, S, fun v F1 H1 g r => ⟨c, dat_bl r, k _ F1 H1 g (.bl _)⟩⟩
theorem pt_hyp {e : Expr} {b : Bool} {P : Prop} (h : P → PT X e (tCanT K es b)) : PT X e (fun σ H Q => P ∧ tCanT K es b σ H Q) := ⟨fun pins s σ H Q I ⟨p, q⟩ => (h p).run pins s σ H Q I q⟩
theorem pe_hyp {e : Expr} {R : Rel} {P : Prop} (h : P → PE X e (tCan K es R)) : PE X e (fun σ H Q => P ∧ tCan K es R σ H Q) := ⟨fun pins s σ H Q I ⟨p, q⟩ => (h p).run pins s σ H Q I q⟩
theorem w_and1 {c : Bool} (h : PT X a (tCanT K es c)) : PW X (.BoolOp .And [a] pos) (tCanT K es c) := pw_and1 h
theorem w_or1 {c : Bool} (h : PT X a (tCanT K es c)) : PW X (.BoolOp .Or [a] pos) (tCanT K es c) := pw_or1 h
theorem pw_hyp {e : Expr} {b : Bool} {P : Prop} (h : P → PW X e (tCanT K es b)) : PW X e (fun σ H Q => P ∧ tCanT K es b σ H Q) := ⟨fun wh pins s σ H Q I ⟨p, q⟩ => (h p).run wh pins s σ H Q I q⟩
theorem w_and {c d : Bool} {r : List Expr} (ha : PT X a (tCanT K es c)) (hb : c = true → PW X (.BoolOp .And (b :: r) pos) (tCanT K es d)) : PW X (.BoolOp .And (a :: b :: r) pos) (tCanT K es (c && d)) :=
  pw_imp (pw_and ha (pw_hyp hb)) fun σ H Q ⟨F0, H0, F, S, k⟩ => ⟨F0, H0, F, S, fun F1 H1 g => by
    cases c with
    | true => exact ⟨rfl, F0, H0, F1, S.grow g, fun F2 H2 g2 => k F2 H2 (g.trans g2)⟩
    | false => exact k F1 H1 g⟩
theorem w_or {c d : Bool} {r : List Expr} (ha : PT X a (tCanT K es c)) (hb : c = false → PW X (.BoolOp .Or (b :: r) pos) (tCanT K es d)) : PW X (.BoolOp .Or (a :: b :: r) pos) (tCanT K es (c || d)) :=
  pw_imp (pw_or ha (pw_hyp hb)) fun σ H Q ⟨F0, H0, F, S, k⟩ => ⟨F0, H0, F, S, fun F1 H1 g => by
    cases c with
    | true => exact k F1 H1 g
    | false => exact ⟨rfl, F0, H0, F1, S.grow g, fun F2 H2 g2 => k F2 H2 (g.trans g2)⟩⟩
theorem e_and {c d : Bool} {r : List Expr} (ha : PE X a (tCan K es (Dat K (.bool c)))) (hb : c = true → PE X (.BoolOp .And (b :: r) pos) (tCan K es (Dat K (.bool d)))) : PE X (.BoolOp .And (a :: b :: r) pos) (tCan K es (Dat K (.bool (c && d)))) :=
  pe_imp (pe_and ha (pe_hyp hb)) fun σ H Q ⟨F0, H0, F, S, k⟩ => ⟨F0, H0, F, S, fun v F1 H1 g r => ⟨c, dat_bl r, by
    cases c with
    | true => exact ⟨rfl, F0, H0, F1, S.grow g, fun v F2 H2 g2 r2 => k v F2 H2 (g.trans g2) r2⟩
    | false => exact k _ F1 H1 g (.bl _)⟩⟩
theorem e_or {c d : Bool} {r : List Expr} (ha : PE X a (tCan K es (Dat K (.bool c)))) (hb : c = false → PE X (.BoolOp .Or (b :: r) pos) (tCan K es (Dat K (.bool d)))) : PE X (.BoolOp .Or (a :: b :: r) pos) (tCan K es (Dat K (.bool (c || d)))) :=
  pe_imp (pe_or ha (pe_hyp hb)) fun σ H Q ⟨F0, H0, F, S, k⟩ => ⟨F0, H0, F, S, fun v F1 H1 g r => ⟨c, dat_bl r, by
    cases c with
    | true => exact k _ F1 H1 g (.bl _)
    | false => exact ⟨rfl, F0, H0, F1, S.grow g, fun v F2 H2 g2 r2 => k v F2 H2 (g.trans g2) r2⟩⟩⟩
theorem e_if {t : Expr} {c : Bool} {R : Rel} (ht : PT X t (tCanT K es c)) (ha : c = true → PE X a (tCan K es R)) (hb : c = false → PE X b (tCan K es R)) : PE X (.IfExp t a b pos) (tCan K es R) :=
  pe_imp (pe_ifExp ht (pe_hyp ha) (pe_hyp hb)) fun σ H Q ⟨F0, H0, F, S, k⟩ => ⟨F0, H0, F, S, fun F1 H1 g => by
    cases c with
    | true => exact ⟨rfl, F0, H0, F1, S.grow g, fun v F2 H2 g2 r2 => k v F2 H2 (g.trans g2) r2⟩
    | false => exact ⟨rfl, F0, H0, F1, S.grow g, fun v F2 H2 g2 r2 => k v F2 H2 (g.trans g2) r2⟩⟩
end Dl
/-! the calculus: built-ins, slices, joins; statements; defs -/
namespace Dl
open PySem PySem.Spec PyProof.Rows L2
variable {X : Cx} {K : PySem.W.Frag} {es : List Ent} {a b e : Expr} {pos p2 p3 : Pos}
/-! ### built-ins of one argument -/
theorem can1 {r : List V → Hp → VK → Prop} {Ra R : Rel} (h : ∀ x F H (Q : VK), Same F H → Ra F H x → (∀ v F' H', Grow F H F' H' → R F' H' v → Q v H') → r [x] H Q) (σ : L2.St) (H : Hp) (Q : VK) (q : tCan K es R σ H Q) : tCB r (tCons (tCan K es Ra) tNil) σ H Q := by
  obtain ⟨F0, H0, F, S, k⟩ := q
  exact ⟨F0, H0, F, S, fun x F1 H1 g1 r1 => h x F1 H1 Q g1.fh r1 fun v F' H' g r => k v F' H' (g1.trans g) r⟩
theorem can1L {r : List V → Hp → VK → Prop} {Ra : Rel} {P : List PyData → Prop} (h : ∀ x F H (Q : VK), Same F H → Ra F H x → (∀ p vs ds F' H', Grow F H F' H' → P ds → H p = none → F' p = none → H' p = some (.lst vs) → DpAll K F' vs ds → Q (.ref p) H') → r [x] H Q) (σ : L2.St) (H : Hp) (Q : VK) (q : tCanL K es P σ H Q) : tCB r (tCons (tCan K es Ra) tNil) σ H Q := by
  obtain ⟨F0, H0, F, S, k⟩ := q
  exact ⟨F0, H0, F, S, fun x F1 H1 g1 r1 => h x F1 H1 Q g1.fh r1 fun p vs ds F' H' g pd n n' hp a => k p vs ds F' H' (g1.trans g) pd (g1.hh.free n) n' hp a⟩
theorem bls_of {ι : Type} {F : Hp} {p : ι → Bool} : ∀ {xs : List ι} {vs : List V}, DpAll K F vs (xs.map fun x => .bool (p x)) → vs = (xs.map p).map V.bl
  | [], _, .nil => rfl
  | x :: xs, _, .cons h t => by
    cases h
    rw [bls_of t]
    rfl
section
variable {ds : List PyData}
theorem e_len (hm : X.mg "len" = none) (h : PE X e (tCan X.K es (Sqd X.K ds))) (hg : Gl X "len" := by rfl) (he : starEach [e] X.env = (false, eval e X.env) :: starEach [] X.env := by rfl) : PE X (.Call (.Name "len" p2) [e] [] pos) (tCan X.K es (Dat X.K (.int (ds.length : Nat)))) :=
  pe_imp (pe_callB call_len_seq hg hm PySem.boot_len (pa_cons h pa_nil he) (he := he)) (can1 fun x F H Q s ⟨p, vs, e, hs, ha⟩ k => ⟨p, vs, by rw [e], hs, by rw [dpa_len ha]; exact can_now (R := Dat X.K (.int (ds.length : Nat))) s (Dp.int _) k⟩)
theorem e_list (hm : X.mg "list" = none) (h : PE X e (tCan X.K es (Sqd X.K ds))) (hg : Gl X "list" := by rfl) (he : starEach [e] X.env = (false, eval e X.env) :: starEach [] X.env := by rfl) : PE X (.Call (.Name "list" p2) [e] [] pos) (tCanL X.K es (· = ds)) :=
  pe_imp (pe_callTy call_list_of hg hm boot_list (pa_cons h pa_nil he) (he := he)) (can1L fun x F H Q s ⟨p, vs, e, hs, ha⟩ k => ⟨p, vs, by rw [e], hs, new_at (P := (· = ds)) (Grow.refl s) rfl ha k⟩)
theorem e_tuple (hm : X.mg "tuple" = none) (h : PE X e (tCan X.K es (Lsd X.K ds))) (hg : Gl X "tuple" := by rfl) (he : starEach [e] X.env = (false, eval e X.env) :: starEach [] X.env := by rfl) : PE X (.Call (.Name "tuple" p2) [e] [] pos) (tCan X.K es (Dat X.K (.tuple ds))) :=
  pe_imp (pe_callTy call_tuple_of hg hm boot_tuple (pa_cons h pa_nil he) (he := he)) (can1 fun x F H Q s ⟨p, vs, e, hs, ha⟩ k => ⟨p, vs, by rw [e], .inl ⟨hs, tup_at (Grow.refl s) ha k⟩⟩)
theorem e_any {ι : Type} {xs : List ι} {p : ι → Bool} (hc : X.calm = true) (hm : X.mg "any" = none) (h : PE X e (tCan X.K es (Lsd X.K (xs.map fun x => .bool (p x))))) (hg : Gl X "any" := by rfl) (he : starEach [e] X.env = (false, eval e X.env) :: starEach [] X.env := by rfl) : PE X (.Call (.Name "any" p2) [e] [] pos) (tCan X.K es (Dat X.K (.bool (xs.any p)))) :=
  pe_imp (pe_callB (cr_any hc) hg hm boot_any (pa_cons h pa_nil he) (he := he)) (can1 fun x F H Q s ⟨q, vs, e, hs, ha⟩ k => by
    have ev := bls_of ha
    subst ev
    refine ⟨q, xs.map p, by rw [e], hs, ?_⟩
    have eb : (xs.map p).any id = xs.any p := by rw [List.any_map]; rfl
    rw [eb]
    exact can_now (R := Dat X.K (.bool _)) s (Dp.bl _) k)
theorem e_all {ι : Type} {xs : List ι} {p : ι → Bool} (hc : X.calm = true) (hm : X.mg "all" = none) (h : PE X e (tCan X.K es (Lsd X.K (xs.map fun x => .bool (p x))))) (hg : Gl X "all" := by rfl) (he : starEach [e] X.env = (false, eval e X.env) :: starEach [] X.env := by rfl) : PE X (.Call (.Name "all" p2) [e] [] pos) (tCan X.K es (Dat X.K (.bool (xs.all p)))) :=
  pe_imp (pe_callB (cr_all hc) hg hm boot_all (pa_cons h pa_nil he) (he := he)) (can1 fun x F H Q s ⟨q, vs, e, hs, ha⟩ k => by
    have ev := bls_of ha
    subst ev
    refine ⟨q, xs.map p, by rw [e], hs, ?_⟩
    have eb : (xs.map p).all id = xs.all p := by rw [List.all_map]; rfl
    rw [eb]
    exact can_now (R := Dat X.K (.bool _)) s (Dp.bl _) k)
theorem e_intB {c : Bool} (hm : X.mg "int" = none) (h : PE X e (tCan X.K es (Dat X.K (.bool c)))) (hg : Gl X "int" := by rfl) (he : starEach [e] X.env = (false, eval e X.env) :: starEach [] X.env := by rfl) : PE X (.Call (.Name "int" p2) [e] [] pos) (tCan X.K es (Dat X.K (.int (if c then 1 else 0)))) :=
  pe_imp (pe_callTy call_int1 hg hm boot_int (pa_cons h pa_nil he) (he := he)) (can1 fun x F H Q s r k => .inr ⟨c, by rw [dat_bl r], can_now (R := Dat X.K (.int _)) s (Dp.int _) k⟩)
end
theorem ints_of {F : Hp} : ∀ {ns : List Int} {vs : List V}, DpAll K F vs (ns.map PyData.int) → vs = ns.map V.int
  | [], _, .nil => rfl
  | n :: ns, _, .cons h t => by
    cases h
    rw [ints_of t]
    rfl
theorem of_ints {F : Hp} : ∀ (ns : List Int), DpAll K F (ns.map V.int) (ns.map PyData.int)
  | [] => .nil
  | n :: ns => .cons (.int n) (of_ints ns)
theorem strs_of {F : Hp} : ∀ {ns : List Str} {vs : List V}, DpAll K F vs (ns.map PyData.str) → vs = ns.map V.str
  | [], _, .nil => rfl
  | n :: ns, _, .cons h t => by
    cases h
    rw [strs_of t]
    rfl
theorem of_strs {F : Hp} : ∀ (ns : List Str), DpAll K F (ns.map V.str) (ns.map PyData.str)
  | [] => .nil
  | n :: ns => .cons (.str n) (of_strs ns)
/-- sorted(set(ints)): a list of the same members -/
theorem e_ssInt {ns : List Int} (hc : X.calm = true) (hu : X.A.units + 64 < cLine) (hm : X.mg "sorted" = none) (hm2 : X.mg "set" = none) (h : PE X e (tCan X.K es (Sqd X.K (ns.map PyData.int)))) (hn : ns.length < 4000) (hg : Gl X "sorted" := by rfl) (hg2 : Gl X "set" := by rfl)
    (na : starEach [e] X.env = (false, eval e X.env) :: starEach [] X.env := by rfl) :
    PE X (.Call (.Name "sorted" p2) [.Call (.Name "set" p3) [e] [] pos] [] pos2) (tCanL X.K es fun ds => ∃ ms : List Int, (∀ n, n ∈ ms ↔ n ∈ ns) ∧ ms.length ≤ ns.length ∧ ms.Nodup ∧ ds = ms.map PyData.int) :=
  pe_imp (Sbx.pe_ssInt hc hu hm hm2 h hg hg2 na) fun σ H Q ⟨F0, H0, F, S, k⟩ => ⟨F0, H0, F, S, fun x F1 H1 g1 ⟨p, vs, e, hs, ha⟩ => by
    have ev := ints_of ha
    subst ev
    refine ⟨p, ns, e, hs, hn, fun ms q h1 h2 h3 hq => ?_⟩
    exact new_at (P := fun ds => ∃ ms : List Int, (∀ n, n ∈ ms ↔ n ∈ ns) ∧ ms.length ≤ ns.length ∧ ms.Nodup ∧ ds = ms.map PyData.int) g1 ⟨ms, h1, h2, h3, rfl⟩ (of_ints ms) k q hq⟩
theorem e_ssStr {ns : List Str} (hc : X.calm = true) (hu : X.A.units + 64 < cLine) (hm : X.mg "sorted" = none) (hm2 : X.mg "set" = none) (h : PE X e (tCan X.K es (Sqd X.K (ns.map PyData.str)))) (hn : ns.length < 4000) (hg : Gl X "sorted" := by rfl) (hg2 : Gl X "set" := by rfl)
    (na : starEach [e] X.env = (false, eval e X.env) :: starEach [] X.env := by rfl) :
    PE X (.Call (.Name "sorted" p2) [.Call (.Name "set" p3) [e] [] pos] [] pos2) (tCanL X.K es fun ds => ∃ ms : List Str, (∀ n, n ∈ ms ↔ n ∈ ns) ∧ ms.length ≤ ns.length ∧ ms.Nodup ∧ ds = ms.map PyData.str) :=
  pe_imp (Sbx.pe_ssStr hc hu hm hm2 h hg hg2 na) fun σ H Q ⟨F0, H0, F, S, k⟩ => ⟨F0, H0, F, S, fun x F1 H1 g1 ⟨p, vs, e, hs, ha⟩ => by
    have ev := strs_of ha
    subst ev
    refine ⟨p, ns, e, hs, hn, fun ms q h1 h2 h3 hq => ?_⟩
    exact new_at (P := fun ds => ∃ ms : List Str, (∀ n, n ∈ ms ↔ n ∈ ns) ∧ ms.length ≤ ns.length ∧ ms.Nodup ∧ ds = ms.map PyData.str) g1 ⟨ms, h1, h2, h3, rfl⟩ (of_strs ms) k q hq⟩
/-! ### slices, joins -/
theorem tup_same {F H : Hp} {p : Addr} {vs : List V} {ds : List PyData} (s : Same F H) (hs : SqT K F p vs) (a : DpAll K F vs ds) : Dat K (.tuple ds) F H (.ref p) := .tup hs a
theorem e_slTo {ds : List PyData} {i : Int} (ha : PE X a (tCan X.K es (Dat X.K (.tuple ds)))) (hb : PE X b (tCan X.K es (Dat X.K (.int i)))) (h0 : 0 ≤ i) : PE X (.Subscript a (.Slice none (some b) none p2) pos) (tCan X.K es (Dat X.K (.tuple (ds.take i.toNat)))) :=
  pe_imp (pe_slice sl_tupA ha po_none (po_some hb)) fun σ H Q ⟨F0, H0, F, S, k⟩ => ⟨F0, H0, F, S, fun x F1 H1 g1 r1 => ⟨F0, H0, F1, S.grow g1, fun y F2 H2 g2 r2 => by
    refine ⟨i, dat_int r2, ?_⟩
    obtain ⟨p, vs, e, hs, ha⟩ := dat_tup r1
    have hs2 := seqT g2.ff hs
    have ha2 := dpAll_mono g2.ff _ _ ha
    have e1 : HT.sIx vs.length vs.length (some i) = min i.toNat vs.length := by
      have := HT.sIx_nat vs.length vs.length i.toNat
      rwa [Int.toNat_of_nonneg h0] at this
    refine ⟨p, vs, e, seqT g2.fh hs2, fun hw => ?_, fun hw => ?_⟩
    · rw [e1] at hw
      refine k _ F2 H2 (g1.trans g2) (tup_same g2.fh hs2 ?_)
      have hl := dpa_len ha2
      rw [List.take_of_length_le (by omega)]
      exact ha2
    · have ec : cutV vs none (some i) = vs.take i.toNat := by
        unfold cutV
        rw [e1]
        show (vs.drop 0).take (min i.toNat vs.length - 0) = _
        rw [List.drop_zero, Nat.sub_zero]
        by_cases hl : i.toNat ≤ vs.length
        · rw [Nat.min_eq_left hl]
        · rw [Nat.min_eq_right (by omega), List.take_of_length_le (Nat.le_refl _), List.take_of_length_le (by omega)]
      rw [ec]
      exact tup_at (g1.trans g2) (dpa_take _ ha2) k⟩⟩
theorem e_slFrom {ds : List PyData} {i : Int} (ha : PE X a (tCan X.K es (Dat X.K (.tuple ds)))) (hb : PE X b (tCan X.K es (Dat X.K (.int i)))) (h0 : 0 ≤ i) : PE X (.Subscript a (.Slice (some b) none none p2) pos) (tCan X.K es (Dat X.K (.tuple (ds.drop i.toNat)))) :=
  pe_imp (pe_slice sl_tupA ha (po_some hb) po_none) fun σ H Q ⟨F0, H0, F, S, k⟩ => ⟨F0, H0, F, S, fun x F1 H1 g1 r1 => ⟨F0, H0, F1, S.grow g1, fun y F2 H2 g2 r2 => by
    refine ⟨i, dat_int r2, ?_⟩
    obtain ⟨p, vs, e, hs, ha⟩ := dat_tup r1
    have hs2 := seqT g2.ff hs
    have ha2 := dpAll_mono g2.ff _ _ ha
    have e1 : HT.sIx vs.length 0 (some i) = min i.toNat vs.length := by
      have := HT.sIx_nat vs.length 0 i.toNat
      rwa [Int.toNat_of_nonneg h0] at this
    have hl := dpa_len ha2
    refine ⟨p, vs, e, seqT g2.fh hs2, fun hw => ?_, fun hw => ?_⟩
    · rw [e1] at hw
      refine k _ F2 H2 (g1.trans g2) (tup_same g2.fh hs2 ?_)
      by_cases hz : vs.length = 0
      · have d0 : ds = [] := List.eq_nil_of_length_eq_zero (by omega)
        subst d0
        rw [List.drop_nil]
        exact ha2
      · have i0 : i.toNat = 0 := by omega
        rw [i0, List.drop_zero]
        exact ha2
    · have ec : cutV vs (some i) none = vs.drop i.toNat := by
        unfold cutV
        rw [e1]
        show (vs.drop (min i.toNat vs.length)).take (vs.length - min i.toNat vs.length) = _
        by_cases hl : i.toNat ≤ vs.length
        · rw [Nat.min_eq_left hl, List.take_of_length_le (by rw [List.length_drop]; exact Nat.le_refl _)]
        · rw [Nat.min_eq_right (by omega), List.drop_of_length_le (Nat.le_refl _), List.drop_of_length_le (by omega), List.take_nil]
      rw [ec]
      exact tup_at (g1.trans g2) (dpa_drop _ ha2) k⟩⟩
theorem e_cat {ds ds' : List PyData} (ha : PE X a (tCan X.K es (Dat X.K (.tuple ds)))) (hb : PE X b (tCan X.K es (Dat X.K (.tuple ds')))) (hz : ds.length + ds'.length ≤ 100000) : PE X (.BinOp a .Add b pos) (tCan X.K es (Dat X.K (.tuple (ds ++ ds')))) :=
  e_op op_catA ha hb fun x y F H Q s hx hy k => by
    obtain ⟨p, vs, e, hs, ha⟩ := dat_tup hx
    obtain ⟨q, us, e2, hs2, ha2⟩ := dat_tup hy
    have l1 := dpa_len ha
    have l2 := dpa_len ha2
    refine ⟨p, q, vs, us, e, e2, seqT s hs, seqT s hs2, Nat.le_trans (by omega) (show 100000 ≤ sizeLine by decide), fun h0 => ?_, fun h0 h1 => ?_, fun h0 h1 => ?_⟩
    · subst h0
      have d0 : ds = [] := List.eq_nil_of_length_eq_zero l1.symm
      subst d0
      exact can_now (R := Dat X.K (.tuple ds')) s (.tup hs2 ha2) k
    · subst h1
      have d0 : ds' = [] := List.eq_nil_of_length_eq_zero l2.symm
      subst d0
      rw [List.append_nil] at k
      exact can_now (R := Dat X.K (.tuple ds)) s (.tup hs ha) k
    · exact tup_at (Grow.refl s) (dpa_app ha ha2) k
theorem e_catL {ds ds' : List PyData} (ha : PE X a (tCan X.K es (Trk X.K ds))) (hb : PE X b (tCan X.K es (Trk X.K ds'))) (hz : ds.length + ds'.length ≤ 100000) : PE X (.BinOp a .Add b pos) (tCanL X.K es (· = ds ++ ds')) :=
  pe_imp (pe_op op_cat ha hb) (can2L fun x y F H Q s ⟨p, vs, e, hs, ha⟩ ⟨q, us, e2, hs2, ha2⟩ k =>
    ⟨p, q, vs, us, e, e2, hs, hs2, by rw [dpa_len ha, dpa_len ha2]; exact Nat.le_trans hz (by decide), new_at (P := (· = ds ++ ds')) (Grow.refl s) rfl (dpa_app ha ha2) k⟩)
theorem dpa_flat {H : Hp} {vs : List V} {ds : List PyData} (h : DpAll K H vs ds) : ∀ n, DpAll K H (List.replicate n vs).flatten (List.replicate n ds).flatten
  | 0 => .nil
  | n + 1 => by
    rw [List.replicate_succ, List.replicate_succ, List.flatten_cons, List.flatten_cons]
    exact dpa_app h (dpa_flat h n)
theorem e_rep {ds : List PyData} {i : Int} (ha : PE X a (tCan X.K es (Trk X.K ds))) (hb : PE X b (tCan X.K es (Dat X.K (.int i)))) (h0 : 0 ≤ i) (h1 : i < 100000) (hz : ds.length * i.toNat ≤ 100000) : PE X (.BinOp a .Mult b pos) (tCanL X.K es (· = (List.replicate i.toNat ds).flatten)) :=
  pe_imp (pe_op op_rep ha hb) (can2L fun x y F H Q s ⟨p, vs, e, hs, ha⟩ hy k =>
    ⟨p, i, vs, e, dat_int hy, hs, by omega, by omega, by rw [dpa_len ha]; exact Nat.le_trans hz (by decide), new_at (P := (· = (List.replicate i.toNat ds).flatten)) (Grow.refl s) rfl (dpa_flat ha _) k⟩)
theorem e_repT {ds : List PyData} {i : Int} (ha : PE X a (tCan X.K es (Dat X.K (.tuple ds)))) (hb : PE X b (tCan X.K es (Dat X.K (.int i)))) (h0 : 2 ≤ i) (h1 : i ≤ 1000) (hz : ds.length ≤ 1000) (hne : ds ≠ []) : PE X (.BinOp a .Mult b pos) (tCan X.K es (Dat X.K (.tuple (List.replicate i.toNat ds).flatten))) :=
  e_op op_repT ha hb fun x y F H Q s hx hy k => by
    obtain ⟨p, vs, e, hs, ha⟩ := dat_tup hx
    have l1 := dpa_len ha
    refine ⟨p, i, vs, e, dat_int hy, seqT s hs, fun z => hne ?_, h0, h1, by omega, tup_at (Grow.refl s) (dpa_flat ha _) k⟩
    subst z
    exact List.eq_nil_of_length_eq_zero l1.symm
/-! ### own defs -/
def spD {ι : Type} (K : PySem.W.Frag) (C : ι → Prop) (Rs : ι → List Rel) (R : ι → Rel) : Sp := fun vs H Q _ => ∃ i F, C i ∧ Same F H ∧ ValsR (Rs i) F H vs ∧ ∀ v F' H', Grow F H F' H' → R i F' H' v → Q v H'
structure FnD (P : Program) (w : World) (K : PySem.W.Frag) (mg : Str → Option Value) (base : Heap) (k : Nat) (x : Str) {ι : Type} (C : ι → Prop) (Rs : ι → List Rel) (R : ι → Rel) : Prop where
  ex : ∃ (f : Addr) (fd : FuncData) (ps : List Str), FnOk P w K mg base CX0 k f fd ps (spD K C Rs R) ∧ mg x = some (.ref f) ∧ PySem.W.keepIn K (.ref f) = true ∧ Binds K fd ps []
theorem FnD.mono {P : Program} {w : World} {mg : Str → Option Value} {base : Heap} {j k : Nat} {x : Str} {ι : Type} {C : ι → Prop} {Rs : ι → List Rel} {R : ι → Rel} (h : FnD P w K mg base j x C Rs R) (l : j ≤ k) : FnD P w K mg base k x C Rs R := by
  obtain ⟨f, fd, ps, F, m, kp, b⟩ := h.ex
  exact ⟨f, fd, ps, F.mono l, m, kp, b⟩
theorem e_call {P : Program} {w : World} {mg : Str → Option Value} {base : Heap} {k : Nat} {x : Str} {ι : Type} {C : ι → Prop} {Rs : ι → List Rel} {R : ι → Rel} {l : List Expr} (F : FnD P w K mg base k x C Rs R) (i : ι) (hi : C i) (hr : Room k X.A) (ha : PA X (e :: l) (tCanA K es (Rs i)))
    (x1 : X.prog = P := by rfl) (x2 : X.w = w := by rfl) (x3 : X.K = K := by rfl) (x4 : X.mg = mg := by rfl) (x5 : X.base = base := by rfl) (hg : Gl X x := by rfl) (hdb : (x == ("__debug__" : Str)) = false := by decide)
    (he : starEach (e :: l) X.env = (false, eval e X.env) :: starEach l X.env := by rfl) (hpl : (backTo pos (starEach l X.env)).any (·.1) = false := by rfl) : PE X (.Call (.Name x p2) (e :: l) [] pos) (tCan K es (R i)) := by
  subst x1; subst x2; subst x3; subst x4; subst x5
  obtain ⟨f, fd, ps, F, hm, hk, hb⟩ := F.ex
  refine pe_imp (pe_call F hr hg hm hk hb .nil pass0 ha hdb he hpl) fun σ H Q ⟨F0, H0, F, S, k⟩ => ⟨F0, H0, F, S, fun vs F1 H1 g1 r1 => ?_⟩
  show spD X.K C Rs R (vs ++ []) H1 Q E0
  rw [List.append_nil]
  exact ⟨i, F1, hi, g1.fh, r1, fun v F' H' g r => k v F' H' (g1.trans g) r⟩
end Dl
/-! the calculus: statements, defs -/
namespace Dl
open PySem PySem.Spec PyProof.Rows L2
variable {X : Cx} {K : PySem.W.Frag} {es : List Ent} {a b e : Expr} {pos p2 p3 : Pos}
inductive Out where
  | nx (P : List Ent → Prop)
  | rt (R : Rel)
def Out.k (K : PySem.W.Frag) (F0 H0 F1 : Hp) (D : Ends) : Out → Prop
  | .nx P => ∀ es σ F H, P es → Same F1 F → Sv K es F0 H0 F H σ → D.nx σ H
  | .rt R => ∀ v F H, Grow F0 H0 F H → R F H v → D.rt v H
def tSt (K : PySem.W.Frag) (es : List Ent) (o : Out) : TS := fun D σ H => ∃ F0 H0 F, Sv K es F0 H0 F H σ ∧ o.k K F0 H0 F D
theorem Out.k.pre {F0 H0 F1 F2 : Hp} {D : Ends} {o : Out} (h : o.k K F0 H0 F1 D) (s : Same F1 F2) : o.k K F0 H0 F2 D := by
  cases o with
  | nx P => exact fun es σ F H p s2 S => h es σ F H p (s.trans s2) S
  | rt R => exact h
theorem ps_imp {st : Stmt} {t t' : TS} (h : PS X st t) (k : ∀ D σ H, t' D σ H → t D σ H) : PS X st t' := ⟨fun pins s σ H D I q => h.run pins s σ H D I (k _ _ _ q)⟩
theorem pss_imp {st : List Stmt} {t t' : TS} (h : PSs X st t) (k : ∀ D σ H, t' D σ H → t D σ H) : PSs X st t' := ⟨fun pins s σ H D I q => h.run pins s σ H D I (k _ _ _ q)⟩
theorem pss_hyp {st : List Stmt} {ι : Type} {C : ι → Prop} {t : ι → TS} (h : ∀ i, C i → PSs X st (t i)) : PSs X st (fun D σ H => ∃ i, C i ∧ t i D σ H) := ⟨fun pins s σ H D I ⟨i, c, q⟩ => (h i c).run pins s σ H D I q⟩
/-! ### blocks -/
theorem ss_nil : PSs X [] (tSt K es (.nx (· = es))) := pss_imp pss_nil fun D σ H ⟨F0, H0, F, S, k⟩ => k es σ F H rfl (Same.refl F) S
theorem ss_cons {st : Stmt} {r : List Stmt} {P : List Ent → Prop} {o : Out} (h1 : PS X st (tSt K es (.nx P))) (h2 : ∀ e, P e → PSs X r (tSt K e o)) : PSs X (st :: r) (tSt K es o) :=
  pss_imp (pss_cons h1 (pss_hyp h2)) fun D σ H ⟨F0, H0, F, S, k⟩ => ⟨F0, H0, F, S, fun es' σ' F' H' p sf S' => ⟨es', p, F0, H0, F', S', k.pre sf⟩⟩
theorem ss_c {st : Stmt} {r : List Stmt} {es' : List Ent} {o : Out} (h1 : PS X st (tSt K es (.nx (· = es')))) (h2 : PSs X r (tSt K es' o)) : PSs X (st :: r) (tSt K es o) := ss_cons h1 fun e he => he ▸ h2
theorem ss_one {st : Stmt} {o : Out} (h : PS X st (tSt K es o)) : PSs X [st] (tSt K es o) := pss_one h
theorem pss_dead {r : List Stmt} : PSs X r (fun _ _ _ => False) := ⟨fun _ _ _ _ _ _ h => h.elim⟩
theorem ss_rt {st : Stmt} {r : List Stmt} {R : Rel} (h : PS X st (tSt K es (.rt R))) : PSs X (st :: r) (tSt K es (.rt R)) :=
  pss_imp (pss_cons h (pss_dead (r := r))) fun D σ H ⟨F0, H0, F, S, k⟩ => ⟨F0, H0, F, S, k⟩
/-- weaker words at the end -/
inductive WkL : List Ent → List Ent → Prop
  | nil : WkL [] []
  | same {e : Ent} {l l' : List Ent} : WkL l l' → WkL (e :: l) (e :: l')
  | drop {e : Ent} {l l' : List Ent} : WkL l l' → WkL (e :: l) (.no :: l')
theorem WkL.wk : ∀ {l l' : List Ent}, WkL l l' → Wk l l'
  | _, _, .nil => ⟨rfl, fun _ _ h => .inr h⟩
  | _, _, .same t => ⟨congrArg (· + 1) t.wk.1, fun i e h => match i, h with
    | 0, h => .inr h
    | i + 1, h => t.wk.2 i e h⟩
  | _, _, .drop t => ⟨congrArg (· + 1) t.wk.1, fun i e h => match i, h with
    | 0, h => .inl (Option.some.inj h).symm
    | i + 1, h => t.wk.2 i e h⟩
theorem ss_wk {st : List Stmt} {P P' : List Ent → Prop} (h : PSs X st (tSt K es (.nx P))) (w : ∀ e, P e → ∃ e', WkL e e' ∧ P' e') : PSs X st (tSt K es (.nx P')) :=
  pss_imp h fun D σ H ⟨F0, H0, F, S, k⟩ => ⟨F0, H0, F, S, fun e σ' F' H' p sf S' => by
    obtain ⟨e', wk, p'⟩ := w e p
    exact k e' σ' F' H' p' sf (S'.wk wk.wk)⟩
theorem ss_nx {st : List Stmt} {P P' : List Ent → Prop} (h : PSs X st (tSt K es (.nx P))) (w : ∀ e, P e → P' e) : PSs X st (tSt K es (.nx P')) :=
  pss_imp h fun D σ H ⟨F0, H0, F, S, k⟩ => ⟨F0, H0, F, S, fun e σ' F' H' p sf S' => k e σ' F' H' (w e p) sf S'⟩
theorem ss_end {st : List Stmt} {e0 : List Ent} {P' : List Ent → Prop} (h : PSs X st (tSt K es (.nx (· = e0)))) (p : P' e0) : PSs X st (tSt K es (.nx P')) := ss_nx h fun e he => he.symm ▸ p
theorem ss_pre {st : List Stmt} {es' : List Ent} {o : Out} (w : WkL es es') (h : PSs X st (tSt K es' o)) : PSs X st (tSt K es o) :=
  pss_imp h fun D σ H ⟨F0, H0, F, S, k⟩ => ⟨F0, H0, F, S.wk w.wk, k⟩
theorem ss_rel {st : List Stmt} {R R' : Rel} (h : PSs X st (tSt K es (.rt R))) (w : ∀ F H v, Same F H → R F H v → R' F H v) : PSs X st (tSt K es (.rt R')) :=
  pss_imp h fun D σ H ⟨F0, H0, F, S, k⟩ => ⟨F0, H0, F, S, fun v F' H' g r => k v F' H' g (w _ _ _ g.fh r)⟩
/-- a list of one's own stays from here -/
theorem ss_frz {st : List Stmt} {o : Out} (i : Nat) {ds : List PyData} (hi : es[i]? = some (.own ds) := by rfl) (h : PSs X st (tSt K (es.set i (.is (Dat K (.list ds)))) o)) : PSs X st (tSt K es o) :=
  pss_imp h fun D σ H ⟨F0, H0, F, S, k⟩ => by
    obtain ⟨F', sf, S'⟩ := S.frz hi
    exact ⟨F0, H0, F', S', k.pre sf⟩
/-! ### statements -/
theorem s_set (i : Nat) {x : Str} {p' : Pos} {R : Rel} [PerR R] (he : PE X e (tCan K es R)) (hN : X.N.Nodup) (hi : X.N[i]? = some x := by rfl) (hx : Loc X.env.scope x := by first | exact .inl rfl | exact .inr rfl)
    (hs : swapsWith e (some (.Name x p')) pos.line X.env = pure false := by rfl) (hf : X.fn x = true ∨ X.env.scope.names.lookup x = some .local := by first | exact .inl rfl | exact .inr rfl) : PS X (.Assign [.Name x p'] e pos) (tSt K es (.nx (· = es.set i (.is R)))) :=
  ps_imp (ps_set hN hi hx he hs hf) fun D σ H ⟨F0, H0, F, S, k⟩ => ⟨F0, H0, F, S, fun v F' H' g r => k _ _ F' H' rfl g.ff ((S.grow g).set r)⟩
theorem s_setE (i : Nat) {x : Str} {p' : Pos} {P : PyData → Prop} (he : PE X e (tCan K es (ExD K P))) (hN : X.N.Nodup) (hi : X.N[i]? = some x := by rfl) (hx : Loc X.env.scope x := by first | exact .inl rfl | exact .inr rfl)
    (hs : swapsWith e (some (.Name x p')) pos.line X.env = pure false := by rfl) (hf : X.fn x = true ∨ X.env.scope.names.lookup x = some .local := by first | exact .inl rfl | exact .inr rfl) : PS X (.Assign [.Name x p'] e pos) (tSt K es (.nx fun e => ∃ d, P d ∧ e = es.set i (.is (Dat K d)))) :=
  ps_imp (ps_set hN hi hx he hs hf) fun D σ H ⟨F0, H0, F, S, k⟩ => ⟨F0, H0, F, S, fun v F' H' g ⟨d, p, r⟩ => k _ _ F' H' ⟨d, p, rfl⟩ g.ff ((S.grow g).set (R := Dat K d) r)⟩
theorem s_setL (i : Nat) {x : Str} {p' : Pos} {P : List PyData → Prop} (he : PE X e (tCanL K es P)) (hN : X.N.Nodup) (hi : X.N[i]? = some x := by rfl) (hx : Loc X.env.scope x := by first | exact .inl rfl | exact .inr rfl)
    (hs : swapsWith e (some (.Name x p')) pos.line X.env = pure false := by rfl) (hf : X.fn x = true ∨ X.env.scope.names.lookup x = some .local := by first | exact .inl rfl | exact .inr rfl) : PS X (.Assign [.Name x p'] e pos) (tSt K es (.nx fun e => ∃ ds, P ds ∧ e = es.set i (.own ds))) :=
  ps_imp (ps_set hN hi hx he hs hf) fun D σ H ⟨F0, H0, F, S, k⟩ => ⟨F0, H0, F, S, fun p vs ds F' H' g pd n n' hp a => k _ _ F' H' ⟨ds, pd, rfl⟩ g.ff (S.setOwn n g S n' hp a)⟩
theorem s_setL1 (i : Nat) {x : Str} {p' : Pos} {ds : List PyData} (he : PE X e (tCanL K es (· = ds))) (hN : X.N.Nodup) (hi : X.N[i]? = some x := by rfl) (hx : Loc X.env.scope x := by first | exact .inl rfl | exact .inr rfl)
    (hs : swapsWith e (some (.Name x p')) pos.line X.env = pure false := by rfl) (hf : X.fn x = true ∨ X.env.scope.names.lookup x = some .local := by first | exact .inl rfl | exact .inr rfl) : PS X (.Assign [.Name x p'] e pos) (tSt K es (.nx (· = es.set i (.own ds)))) :=
  ps_imp (s_setL i he hN hi hx hs hf) fun D σ H ⟨F0, H0, F, S, k⟩ => ⟨F0, H0, F, S, fun e σ' F' H' ⟨ds', e1, e2⟩ sf S' => k e σ' F' H' (by rw [e2, e1]) sf S'⟩
/-- name = [.. for .. in .. if ..] on one line -/
theorem s_lc (i : Nat) {ι : Type} {xs : List ι} {enc : ι → PyData} {c : ι → Bool} {f : ι → PyData} {ds : List PyData} {elt tg iter : Expr} {ifs : List Expr} {scope : Scope} {own : List (Str × Nat)} {g : TG} {φ : ι → List Ent → List Ent} {js : List Nat} {y : Str} {py spos : Pos}
    (q : (xs.filter c).map f = ds) (hc : X.calm = true) (hN : X.N.Nodup) (hi : PI X tg iter (tCanI X.K es (xs.map enc))) (ok : BlkOk X.N X.env.scope scope own)
    (hg : ∀ (s : Shared) (H : Hp) (C : Addr) (cl : List (Str × Addr)) (fp : List Addr), PG (X.blk s H scope (compEnvC scope cl C X.env) fp) tg g) (ht : ∀ x ∈ xs, Tg X.K g (enc x) (φ x) js) (hjs : ∀ j ∈ js, j ∈ own.map (·.2))
    (hcn : ∀ x ∈ xs, ∀ (s : Shared) (H : Hp) (C : Addr) (cl : List (Str × Addr)) (fp : List Addr), PTs (X.blk s H scope (compEnvC scope cl C X.env) fp) ifs (tCanT X.K (φ x (wipeE es (own.map (·.2)))) (c x)))
    (he : ∀ x ∈ xs, c x = true → ∀ (s : Shared) (H : Hp) (C : Addr) (cl : List (Str × Addr)) (fp : List Addr), PE (X.blk s H scope (compEnvC scope cl C X.env) fp) elt (tCan X.K (φ x (wipeE es (own.map (·.2)))) (Dat X.K (f x))))
    (hz : xs.length ≤ 100000) (hy : X.N[i]? = some y := by rfl) (hyl : X.env.scope.names.lookup y = some .local := by rfl) (hsw : swapsWith (.ListComp elt [⟨tg, iter, ifs, 0⟩] scope pos) (some (.Name y py)) spos.line X.env = pure true := by rfl) (hs : ∀ x, foldedSetIterable iter X.env x = pure x := by intro _; rfl) :
    PS X (.Assign [.Name y py] (.ListComp elt [⟨tg, iter, ifs, 0⟩] scope pos) spos) (tSt X.K es (.nx (· = es.set i (.own ds)))) :=
  ps_imp (ps_setLc hc hN hy hyl hsw hi ok hg (fun s H C cl fp => ⟨fun pins s' σ H' Q I ⟨x, hx, q⟩ => (hcn x hx s H C cl fp).run pins s' σ H' Q I q⟩)
    (fun s H C cl fp => ⟨fun pins s' σ H' Q I ⟨x, hx, q⟩ => (he x hx.1 hx.2 s H C cl fp).run pins s' σ H' Q I q⟩) hs) fun D σ H ⟨F0, H0, F, S, k⟩ =>
      lc_can hz ht hjs σ H _ ⟨F0, H0, F, S, fun p vs ds' F' H' gr pd n n' hp a => k _ _ F' H' (by rw [pd, q]) gr.ff (S.setOwn n gr S n' hp a)⟩
theorem s_lc0 (i : Nat) {ι : Type} {xs : List ι} {enc : ι → PyData} {f : ι → PyData} {elt tg iter : Expr} {scope : Scope} {own : List (Str × Nat)} {g : TG} {φ : ι → List Ent → List Ent} {js : List Nat} {y : Str} {py spos : Pos}
    (hc : X.calm = true) (hN : X.N.Nodup) (hi : PI X tg iter (tCanI X.K es (xs.map enc))) (ok : BlkOk X.N X.env.scope scope own)
    (hg : ∀ (s : Shared) (H : Hp) (C : Addr) (cl : List (Str × Addr)) (fp : List Addr), PG (X.blk s H scope (compEnvC scope cl C X.env) fp) tg g) (ht : ∀ x ∈ xs, Tg X.K g (enc x) (φ x) js) (hjs : ∀ j ∈ js, j ∈ own.map (·.2))
    (he : ∀ x ∈ xs, ∀ (s : Shared) (H : Hp) (C : Addr) (cl : List (Str × Addr)) (fp : List Addr), PE (X.blk s H scope (compEnvC scope cl C X.env) fp) elt (tCan X.K (φ x (wipeE es (own.map (·.2)))) (Dat X.K (f x))))
    (hz : xs.length ≤ 100000) (hy : X.N[i]? = some y := by rfl) (hyl : X.env.scope.names.lookup y = some .local := by rfl) (hsw : swapsWith (.ListComp elt [⟨tg, iter, [], 0⟩] scope pos) (some (.Name y py)) spos.line X.env = pure true := by rfl) (hs : ∀ x, foldedSetIterable iter X.env x = pure x := by intro _; rfl) :
    PS X (.Assign [.Name y py] (.ListComp elt [⟨tg, iter, [], 0⟩] scope pos) spos) (tSt X.K es (.nx (· = es.set i (.own (xs.map f))))) :=
  s_lc i (c := fun _ => true) (f := f) (by rw [List.filter_eq_self.mpr fun _ _ => rfl]) hc hN hi ok hg ht hjs (fun x _ s H C cl fp => ts_nil) (fun x hx _ => he x hx) hz hy hyl hsw hs
/-- a target of names -/
theorem s_asg {tg : Expr} {g : TG} {d : PyData} {φ : List Ent → List Ent} {js : List Nat} (he : PE X e (tCan K es (Dat K d))) (hg : PG X tg g) (ht : Tg K g d φ js) (hs : swapsWithSole [tg] e pos.line X.env = pure false := by rfl) (hw : swappedStores [tg] e X.env = pure none := by rfl)
    (h1 : (assignEach [tg] X.env).map (·.2) = [assign tg X.env] := by rfl) : PS X (.Assign [tg] e pos) (tSt K es (.nx (· = φ es))) :=
  ps_imp (ps_asg he hg hs hw h1) fun D σ H ⟨F0, H0, F, S, k⟩ => ⟨F0, H0, F, S, fun v F' H' g r => ht.run es F0 H0 F' H' σ v D.nx (S.grow g) r fun σ' S' _ _ => k _ σ' F' H' rfl g.ff S'⟩
theorem s_ret {R : Rel} (he : PE X e (tCan K es R)) : PS X (.Return (some e) pos) (tSt K es (.rt R)) :=
  ps_imp (ps_ret he) fun D σ H ⟨F0, H0, F, S, k⟩ => ⟨F0, H0, F, S, fun v F' H' g r => k v F' H' (S.g.trans g) r⟩
theorem s_app {ap cp ep : Pos} (i : Nat) {x : Str} {p' : Pos} {ds : List PyData} {d : PyData} (hi : es[i]? = some (.own ds)) (h : PE X e (tCan X.K es (Dat X.K d))) (hz : ds.length < 100000) (hN : X.N[i]? = some x := by rfl)
    (hv : Vis X.env.scope x := by first | exact Or.inl rfl | exact Or.inr (Or.inl rfl) | exact Or.inr (Or.inr rfl)) (hd : (x == ("__debug__" : Str)) = false := by decide) (hcd : (x == ("__classdict__" : Str)) = false := by decide)
    (hbase : attributeBase (.Name x p') "append" X.env (eval (.Name x p') X.env) = eval (.Name x p') X.env := by rfl)
    (hfew : ((backTo cp (starEach (e :: []) X.env)).all (fun x => !x.1) && (backToKw cp (keywordEach [] X.env)).all (fun x => x.1.isSome)
      && decide ((e :: []).length + ([] : List Keyword).length + (if ([] : List Keyword).isEmpty then 0 else 1) < 30)) = true := by rfl)
    (hline : (ap.endLine == cp.line) = true := by rfl) (hs : starEach (e :: []) X.env = (false, eval e X.env) :: starEach [] X.env := by rfl) (hplain : (backTo cp (starEach [] X.env)).any (·.1) = false := by rfl)
    (hsw : swapsWith (.Call (.Attribute (.Name x p') "append" ap) [e] [] cp) none ep.line X.env = pure false := by rfl) :
    PS X (.Expr (.Call (.Attribute (.Name x p') "append" ap) [e] [] cp) ep) (tSt X.K es (.nx (· = es.set i (.own (ds ++ [d]))))) :=
  ps_imp (ps_expr (pe_bm PySem.F.plainAttrs_list PySem.F.slot_list_append PySem.F.type_list_append mt_append (pe_var hN hv hd hcd) (pa_cons h pa_nil hs) hbase hfew hline hs hplain) hsw) fun D σ H ⟨F0, H0, F, S, k⟩ => by
    obtain ⟨p, vs, e, n0, n, hp, a⟩ := S.ok i _ hi
    refine ⟨_, e, .inl ⟨rfl, vs, .inl (.inl hp)⟩, F0, H0, F, S, fun v F1 H1 g1 r1 => ?_⟩
    have S1 := S.grow g1
    refine ⟨p, vs, v, rfl, rfl, g1.hh _ _ hp, by rw [dpa_len a]; exact Nat.lt_of_lt_of_le hz (by decide), ?_⟩
    exact k _ σ F1 _ rfl g1.ff (S1.chg (vs := vs) hi e (dpa_app (dpAll_mono g1.ff _ _ a) (.cons r1 .nil)))
theorem s_ext {ap cp ep : Pos} (i : Nat) {x : Str} {p' : Pos} {ds ds' : List PyData} (hi : es[i]? = some (.own ds)) (h : PE X e (tCan X.K es (Trk X.K ds'))) (hz : ds.length + ds'.length ≤ 100000) (hN : X.N[i]? = some x := by rfl)
    (hv : Vis X.env.scope x := by first | exact Or.inl rfl | exact Or.inr (Or.inl rfl) | exact Or.inr (Or.inr rfl)) (hd : (x == ("__debug__" : Str)) = false := by decide) (hcd : (x == ("__classdict__" : Str)) = false := by decide)
    (hbase : attributeBase (.Name x p') "extend" X.env (eval (.Name x p') X.env) = eval (.Name x p') X.env := by rfl)
    (hfew : ((backTo cp (starEach (e :: []) X.env)).all (fun x => !x.1) && (backToKw cp (keywordEach [] X.env)).all (fun x => x.1.isSome)
      && decide ((e :: []).length + ([] : List Keyword).length + (if ([] : List Keyword).isEmpty then 0 else 1) < 30)) = true := by rfl)
    (hline : (ap.endLine == cp.line) = true := by rfl) (hs : starEach (e :: []) X.env = (false, eval e X.env) :: starEach [] X.env := by rfl) (hplain : (backTo cp (starEach [] X.env)).any (·.1) = false := by rfl)
    (hsw : swapsWith (.Call (.Attribute (.Name x p') "extend" ap) [e] [] cp) none ep.line X.env = pure false := by rfl) :
    PS X (.Expr (.Call (.Attribute (.Name x p') "extend" ap) [e] [] cp) ep) (tSt X.K es (.nx (· = es.set i (.own (ds ++ ds'))))) :=
  ps_imp (ps_expr (pe_bm PySem.F.plainAttrs_list PySem.F.slot_list_extend PySem.F.type_list_extend mt_extend (pe_var hN hv hd hcd) (pa_cons h pa_nil hs) hbase hfew hline hs hplain) hsw) fun D σ H ⟨F0, H0, F, S, k⟩ => by
    obtain ⟨p, vs, e, n0, n, hp, a⟩ := S.ok i _ hi
    refine ⟨_, e, .inl ⟨rfl, vs, .inl (.inl hp)⟩, F0, H0, F, S, fun v F1 H1 g1 ⟨q, us, e2, hq, aq⟩ => ?_⟩
    have S1 := S.grow g1
    refine ⟨p, q, vs, us, rfl, by rw [e2], g1.hh _ _ hp, hq, by rw [dpa_len a, dpa_len aq]; exact Nat.le_trans hz (by decide), ?_⟩
    exact k _ σ F1 _ rfl g1.ff (S1.chg (vs := vs) hi e (dpa_app (dpAll_mono g1.ff _ _ a) aq))
theorem pss_if {P : Prop} {r : List Stmt} {o : Out} (h : P → PSs X r (tSt K es o)) : PSs X r (fun D σ H => P ∧ tSt K es o D σ H) := ⟨fun pins s σ H D I ⟨p, q⟩ => (h p).run pins s σ H D I q⟩
theorem s_if {c : Bool} {p q : List Stmt} {o : Out} (hc : PT X e (tCanT K es c)) (ha : c = true → PSs X p (tSt K es o)) (hb : c = false → PSs X q (tSt K es o)) : PS X (.If e p q pos) (tSt K es o) :=
  ps_imp (ps_if hc (pss_if ha) (pss_if hb)) fun D σ H ⟨F0, H0, F, S, k⟩ => ⟨F0, H0, F, S, fun F1 H1 g => by
    cases c with
    | true => exact ⟨rfl, F0, H0, F1, S.grow g, k.pre g.ff⟩
    | false => exact ⟨rfl, F0, H0, F1, S.grow g, k.pre g.ff⟩⟩
/-- if t: return ..; the rest -/
theorem ss_ifr {c : Bool} {p r : List Stmt} {R : Rel} (hc : PT X e (tCanT K es c)) (ha : c = true → PSs X p (tSt K es (.rt R))) (hb : c = false → PSs X r (tSt K es (.rt R))) : PSs X (.If e p [] pos :: r) (tSt K es (.rt R)) :=
  pss_imp (pss_cons (ps_if hc (pss_if ha) pss_nil) (pss_if hb)) fun D σ H ⟨F0, H0, F, S, k⟩ => ⟨F0, H0, F, S, fun F1 H1 g => by
    cases c with
    | true => exact ⟨rfl, F0, H0, F1, S.grow g, k.pre g.ff⟩
    | false => exact ⟨rfl, F0, H0, F1, S.grow g, k.pre g.ff⟩⟩
/-! ### for -/
section
variable {ι : Type} {xs : List ι} {enc : ι → PyData} {tg iter : Expr} {body : List Stmt} {g : TG} {φ : ι → List Ent → List Ent} {js : List Nat}
/-- every turn goes on -/
theorem s_for (I : Nat → List Ent → Prop) (hc : X.calm = true) (hi : PI X tg iter (tCanI X.K es (xs.map enc))) (hg : PG X tg g) (ht : ∀ x ∈ xs, Tg X.K g (enc x) (φ x) js) (h0 : I 0 es)
    (hb : ∀ i x e, xs[i]? = some x → I i e → PSs X body (tSt X.K (φ x e) (.nx (I (i + 1))))) (hp : PassesOwn (model X.prog X.w) X.A X.env X.xe) (hs : ∀ x, foldedSetIterable iter X.env x = pure x := by intro _; rfl) :
    PS X (.For tg iter body [] pos) (tSt X.K es (.nx (I xs.length))) :=
  ps_imp (ps_for hp hc hi hg (pss_hyp (ι := Nat × ι × List Ent) (C := fun p => xs[p.1]? = some p.2.1 ∧ I p.1 p.2.2) (t := fun p => tSt X.K (φ p.2.1 p.2.2) (.nx (I (p.1 + 1)))) fun p h => hb p.1 p.2.1 p.2.2 h.1 h.2) hs) fun D σ H ⟨F0, H0, F, S, k⟩ => by
    refine ⟨F0, H0, F, S, fun J F1 H1 g1 w => ?_⟩
    have hlen : (xs.map enc).length = xs.length := List.length_map ..
    unfold WalkD at w
    rw [hlen] at w
    refine for_it (g := g) (tb := fun D σ H => ∃ p : Nat × ι × List Ent, (xs[p.1]? = some p.2.1 ∧ I p.1 p.2.2) ∧ tSt X.K (φ p.2.1 p.2.2) (.nx (I (p.1 + 1))) D σ H) (D := D) (σ := σ) (H := H1) w (fun i σ H => ∃ F' e, Same F1 F' ∧ I i e ∧ Sv X.K e F0 H0 F' H σ) ⟨F1, es, Same.refl _, h0, S.grow g1⟩ ?_ ?_ ?_
    · rintro i σ' H' _ ⟨F', e, s, _, S'⟩
      exact s.trans S'.fh
    · rintro i x σ2 H2 H3 hi ⟨F2, e2, s2, i2, S2⟩ y
      obtain ⟨F3, g3, d, hd, pd⟩ := y F2 s2 S2.fh
      have hx : xs[i]? = some xs[i] := List.getElem?_eq_getElem hi
      rw [List.getElem?_map, hx] at hd
      cases hd
      refine (ht _ (List.getElem_mem hi)).run _ F0 H0 F3 H3 _ x _ (S2.grow g3) pd fun σ' S' _ _ => ?_
      exact ⟨(i, xs[i], e2), ⟨hx, i2⟩, F0, H0, F3, S', fun e4 σ4 F4 H4 i4 s4 S4 => ⟨F4, e4, (s2.trans g3.ff).trans s4, i4, S4⟩⟩
    · rintro σ' H' ⟨F', e, s, i', S'⟩
      exact k e σ' F' H' i' (g1.ff.trans s) S'
/-- a turn may return -/
theorem s_forR {R : Rel} {p : ι → Bool} (I : Nat → List Ent → Prop) (hc : X.calm = true) (hi : PI X tg iter (tCanI X.K es (xs.map enc))) (hg : PG X tg g) (ht : ∀ x ∈ xs, Tg X.K g (enc x) (φ x) js) (h0 : I 0 es)
    (hb : ∀ i x e, xs[i]? = some x → I i e → PSs X body (tSt X.K (φ x e) (if p x = true then .rt R else .nx (I (i + 1))))) (hp : PassesOwn (model X.prog X.w) X.A X.env X.xe) (hs : ∀ x, foldedSetIterable iter X.env x = pure x := by intro _; rfl) :
    PS X (.For tg iter body [] pos) (tSt X.K es (if xs.any p = true then .rt R else .nx (I xs.length))) :=
  ps_imp (ps_for hp hc hi hg (pss_hyp (ι := Nat × ι × List Ent) (C := fun q => xs[q.1]? = some q.2.1 ∧ I q.1 q.2.2) (t := fun q => tSt X.K (φ q.2.1 q.2.2) (if p q.2.1 = true then .rt R else .nx (I (q.1 + 1)))) fun q h => hb q.1 q.2.1 q.2.2 h.1 h.2) hs) fun D σ H ⟨F0, H0, F, S, k⟩ => by
    refine ⟨F0, H0, F, S, fun J F1 H1 g1 w => ?_⟩
    have hlen : (xs.map enc).length = xs.length := List.length_map ..
    unfold WalkD at w
    rw [hlen] at w
    refine for_it (g := g) (tb := fun D σ H => ∃ q : Nat × ι × List Ent, (xs[q.1]? = some q.2.1 ∧ I q.1 q.2.2) ∧ tSt X.K (φ q.2.1 q.2.2) (if p q.2.1 = true then .rt R else .nx (I (q.1 + 1))) D σ H) (D := D) (σ := σ) (H := H1) w
      (fun i σ H => ∃ F' e, Same F1 F' ∧ (∀ j x, j < i → xs[j]? = some x → p x = false) ∧ I i e ∧ Sv X.K e F0 H0 F' H σ) ⟨F1, es, Same.refl _, fun j x h => absurd h (Nat.not_lt_zero _), h0, S.grow g1⟩ ?_ ?_ ?_
    · rintro i σ' H' _ ⟨F', e, s, _, _, S'⟩
      exact s.trans S'.fh
    · rintro i x σ2 H2 H3 hi ⟨F2, e2, s2, no, i2, S2⟩ y
      obtain ⟨F3, g3, d, hd, pd⟩ := y F2 s2 S2.fh
      have hx : xs[i]? = some xs[i] := List.getElem?_eq_getElem hi
      rw [List.getElem?_map, hx] at hd
      cases hd
      refine (ht _ (List.getElem_mem hi)).run _ F0 H0 F3 H3 _ x _ (S2.grow g3) pd fun σ' S' _ _ => ?_
      refine ⟨(i, xs[i], e2), ⟨hx, i2⟩, F0, H0, F3, S', ?_⟩
      show Out.k X.K F0 H0 F3 _ (if p xs[i] = true then .rt R else .nx (I (i + 1)))
      by_cases hpx : p xs[i] = true
      · rw [if_pos hpx]
        have ha : xs.any p = true := List.any_eq_true.mpr ⟨_, List.getElem_mem hi, hpx⟩
        rw [if_pos ha] at k
        exact k
      · rw [if_neg hpx]
        refine fun e4 σ4 F4 H4 i4 s4 S4 => ⟨F4, e4, (s2.trans g3.ff).trans s4, fun j z hj hz => ?_, i4, S4⟩
        rcases Nat.lt_succ_iff_lt_or_eq.mp hj with h | h
        · exact no j z h hz
        · subst h
          rw [hx] at hz
          cases hz
          exact Bool.eq_false_iff.mpr hpx
    · rintro σ' H' ⟨F', e, s, no, i', S'⟩
      have ha : ¬ xs.any p = true := fun z => by
        obtain ⟨x, hm, hx⟩ := List.any_eq_true.mp z
        obtain ⟨j, hj⟩ := List.getElem?_of_mem hm
        have := (List.getElem?_eq_some_iff.mp hj).1
        rw [no j x this hj] at hx
        cases hx
      rw [if_neg ha] at k
      exact k e σ' F' H' i' (g1.ff.trans s) S'
end
theorem ss_forr {b : Bool} {st : Stmt} {r : List Stmt} {R : Rel} {P : List Ent → Prop} (h : PS X st (tSt K es (if b = true then .rt R else .nx P))) (h2 : b = false → ∀ e, P e → PSs X r (tSt K e (.rt R))) : PSs X (st :: r) (tSt K es (.rt R)) := by
  cases b with
  | true => exact ss_rt h
  | false => exact ss_cons h (h2 rfl)
theorem WkL.set : ∀ {l l' : List Ent} (i : Nat) (a : Ent), WkL l l' → WkL (l.set i a) (l'.set i a)
  | _, _, _, _, .nil => .nil
  | _, _, 0, _, .same t => .same t
  | _, _, 0, _, .drop t => .same t
  | _, _, i + 1, a, .same t => .same (t.set i a)
  | _, _, i + 1, a, .drop t => .drop (t.set i a)
theorem WkL.refl : ∀ l : List Ent, WkL l l
  | [] => .nil
  | _ :: l => .same (WkL.refl l)
theorem WkL.trans : ∀ {l l' l'' : List Ent}, WkL l l' → WkL l' l'' → WkL l l''
  | _, _, _, .nil, .nil => .nil
  | _, _, _, .same t, .same u => .same (t.trans u)
  | _, _, _, .same t, .drop u => .drop (t.trans u)
  | _, _, _, .drop t, .same u => .drop (t.trans u)
  | _, _, _, .drop t, .drop u => .drop (t.trans u)
section
variable {ι : Type} {xs : List ι} {enc : ι → PyData} {tg iter : Expr} {body : List Stmt} {g : TG} {φ : ι → List Ent → List Ent} {js : List Nat}
/-- an invariant told by slots -/
theorem s_forA {α : Type} (E : Nat → α → List Ent) (J : Nat → α → Prop) (a0 : α) (hc : X.calm = true) (hi : PI X tg iter (tCanI X.K es (xs.map enc))) (hg : PG X tg g) (ht : ∀ x ∈ xs, Tg X.K g (enc x) (φ x) js) (h0 : WkL es (E 0 a0)) (j0 : J 0 a0)
    (hb : ∀ i x a, xs[i]? = some x → J i a → PSs X body (tSt X.K (φ x (E i a)) (.nx fun e => ∃ b, J (i + 1) b ∧ WkL e (E (i + 1) b)))) (hp : PassesOwn (model X.prog X.w) X.A X.env X.xe)
    (hm : ∀ x l l', WkL l l' → WkL (φ x l) (φ x l') := by intro x l l' h; first | exact WkL.set _ _ h | exact WkL.set _ _ (WkL.set _ _ h)) (hs : ∀ x, foldedSetIterable iter X.env x = pure x := by intro _; rfl) :
    PS X (.For tg iter body [] pos) (tSt X.K es (.nx fun e => ∃ a, J xs.length a ∧ WkL e (E xs.length a))) :=
  s_for (fun i e => ∃ a, J i a ∧ WkL e (E i a)) hc hi hg ht ⟨a0, j0, h0⟩ (fun i x e hx ⟨a, ja, w⟩ => ss_pre (hm x _ _ w) (hb i x a hx ja)) hp hs
theorem s_forRA {α : Type} {R : Rel} {p : ι → Bool} (E : Nat → α → List Ent) (J : Nat → α → Prop) (a0 : α) (hc : X.calm = true) (hi : PI X tg iter (tCanI X.K es (xs.map enc))) (hg : PG X tg g) (ht : ∀ x ∈ xs, Tg X.K g (enc x) (φ x) js) (h0 : WkL es (E 0 a0)) (j0 : J 0 a0)
    (hb : ∀ i x a, xs[i]? = some x → J i a → PSs X body (tSt X.K (φ x (E i a)) (if p x = true then .rt R else .nx fun e => ∃ b, J (i + 1) b ∧ WkL e (E (i + 1) b)))) (hp : PassesOwn (model X.prog X.w) X.A X.env X.xe)
    (hm : ∀ x l l', WkL l l' → WkL (φ x l) (φ x l') := by intro x l l' h; first | exact WkL.set _ _ h | exact WkL.set _ _ (WkL.set _ _ h)) (hs : ∀ x, foldedSetIterable iter X.env x = pure x := by intro _; rfl) :
    PS X (.For tg iter body [] pos) (tSt X.K es (if xs.any p = true then .rt R else .nx fun e => ∃ a, J xs.length a ∧ WkL e (E xs.length a))) :=
  s_forR (fun i e => ∃ a, J i a ∧ WkL e (E i a)) hc hi hg ht ⟨a0, j0, h0⟩ (fun i x e hx ⟨a, ja, w⟩ => ss_pre (hm x _ _ w) (hb i x a hx ja)) hp hs
end
/-! ### tuples of names -/
structure Tgs (K : PySem.W.Frag) (u : TGs) (ds : List PyData) (φ : List Ent → List Ent) (js : List Nat) : Prop where
  run : ∀ (es : List Ent) (F0 H0 F H : Hp) (σ : L2.St) (vs : List V) (Q : L2.St → Hp → Prop), Sv K es F0 H0 F H σ → DpAll K F vs ds →
    (∀ σ' : L2.St, Sv K (φ es) F0 H0 F H σ' → σ'.length = σ.length → (∀ i, i ∉ js → σ'[i]? = σ[i]?) → Q σ' H) → u vs σ H Q
theorem tgs_nil : Tgs K gNil [] id [] := ⟨fun es F0 H0 F H σ vs Q S h k => by cases h; exact ⟨rfl, k σ S rfl fun _ _ => rfl⟩⟩
theorem tgs_cons (j : Nat) {d : PyData} {u : TGs} {ds : List PyData} {φ : List Ent → List Ent} {js : List Nat} (t : Tgs K u ds φ js) : Tgs K (gCons (gName j) u) (d :: ds) (fun es => φ (es.set j (.is (Dat K d)))) (j :: js) :=
  ⟨fun es F0 H0 F H σ vs Q S h k => by
    cases h with
    | cons h1 h2 =>
      refine ⟨_, _, rfl, t.run _ F0 H0 F H _ _ Q (S.set (R := Dat K d) h1) h2 fun σ' S' l' o' => k σ' S' (by rw [l', List.length_set]) fun i hi => ?_⟩
      simp only [List.mem_cons, not_or] at hi
      rw [o' i hi.2, List.getElem?_set_ne (Ne.symm hi.1)]⟩
theorem tg_tup {u : TGs} {ds : List PyData} {φ : List Ent → List Ent} {js : List Nat} {n : Nat} (t : Tgs K u ds φ js) (hn : n = ds.length := by rfl) : Tg K (gTup K n u) (.tuple ds) φ js :=
  ⟨fun es F0 H0 F H σ x Q S hd k => by
    cases hd with
    | tup hs ha => exact ⟨_, _, rfl, seqT S.fh hs, by rw [hn, dpa_len ha], t.run es F0 H0 F H σ _ Q S ha k⟩⟩
/-! ### defs -/
def entry (Rs : List Rel) (n : Nat) : List Ent := Rs.map Ent.is ++ List.replicate (n - Rs.length) .no
theorem valsR_len : ∀ {Rs : List Rel} {F H : Hp} {vs : List V}, ValsR Rs F H vs → vs.length = Rs.length
  | [], _, _, [], _ => rfl
  | _ :: _, _, _, _ :: _, h => congrArg (· + 1) (valsR_len h.2)
  | [], _, _, _ :: _, h => h.elim
  | _ :: _, _, _, [], h => h.elim
theorem valsR_at : ∀ {Rs : List Rel} {F H : Hp} {vs : List V} {i : Nat} {R : Rel}, ValsR Rs F H vs → Rs[i]? = some R → ∃ v, vs[i]? = some v ∧ R F H v
  | _ :: _, _, _, v :: _, 0, _, h, e => ⟨v, rfl, (Option.some.inj e) ▸ h.1⟩
  | _ :: _, _, _, _ :: _, i + 1, _, h, e => valsR_at (i := i) h.2 e
  | [], _, _, _, _, _, _, e => by cases e
  | _ :: _, _, _, [], _, _, h, _ => h.elim
theorem sv_entry {Rs : List Rel} {F H : Hp} {vs : List V} {N : List Str} (s : Same F H) (h : ValsR Rs F H vs) (hp : ∀ R ∈ Rs, PerR R) : Sv K (entry Rs N.length) F H F H (L2.start N vs) := by
  have hl := valsR_len h
  have own : ∀ (i : Nat) (ds : List PyData), (entry Rs N.length)[i]? ≠ some (.own ds) := fun i ds z => by
    have hm := List.mem_of_getElem? z
    unfold entry at hm
    rcases List.mem_append.mp hm with q | q
    · obtain ⟨R, _, e⟩ := List.mem_map.mp q
      cases e
    · cases (List.mem_replicate.mp q).2
  refine ⟨s, Grow.refl s, ?_, fun i e he => ?_, fun i j ds ds' _ h1 _ => absurd h1 (own i ds)⟩
  · unfold entry L2.start
    rw [List.length_append, List.length_append, List.length_map, List.length_map, List.length_replicate, List.length_replicate, hl]
  · unfold entry at he
    by_cases hi : i < Rs.length
    · rw [List.getElem?_append_left (by rw [List.length_map]; exact hi), List.getElem?_map, List.getElem?_eq_getElem hi] at he
      cases he
      obtain ⟨v, hv, r⟩ := valsR_at h (List.getElem?_eq_getElem hi)
      refine ⟨hp _ (List.getElem_mem hi), v, ?_, r⟩
      unfold L2.start
      rw [List.getElem?_append_left (by rw [List.length_map, hl]; exact hi), List.getElem?_map, hv]
      rfl
    · rw [List.getElem?_append_right (by rw [List.length_map]; omega)] at he
      have := (List.mem_replicate.mp (List.mem_of_getElem? he)).2
      subst this
      trivial
section
variable {P : Program} {w : World} {mg : Str → Option Value} {base : Heap} {ι : Type} {C : ι → Prop} {Rs : ι → List Rel} {R : ι → Rel} {x qual : Str} {st : Stmt} {f : Addr} {fd : FuncData} {N ps : List Str} {k : Nat}
theorem fn_D (F : Fun K x qual st f fd) (S : FnScope N ps (defScope st)) (hm : mg x = some (.ref f)) (hb : Binds K fd ps []) (hlen : ∀ i, (Rs i).length = ps.length) (hp : ∀ i, ∀ R ∈ Rs i, PerR R)
    (body : ∀ (cdv : Value) (A : Around) (outer : List Env) (s : Shared) (H : Hp) (E : XK), Room k (A.deeper (envOfC qual (defScope st) s.heap.objs.size f cdv)) → ∀ i, C i →
      PSs (cxOf CX0 P w K mg base N qual (defScope st) f cdv A outer s H E).nox (defBody st) (tSt K (entry (Rs i) N.length) (.rt (R i)))) :
    FnD P w K mg base (k + 1) x C Rs R := by
  refine ⟨f, fd, ps, F.ok S (fun vs H Q E ⟨i, F1, _, _, h, _⟩ => by rw [valsR_len h, hlen i]) (fun cdv A outer s H vs Q E hr ⟨i, F1, c, sh, hv, kk⟩ => ?_), hm, F.kp, hb⟩
  exact ⟨_, body cdv A outer s H E hr i c, F1, H, F1, sv_entry sh hv (hp i), fun v F' H' g r => kk v F' H' g r⟩
/-- a def that gives nothing back -/
theorem fn_N (F : Fun K x qual st f fd) (S : FnScope N ps (defScope st)) (hm : mg x = some (.ref f)) (hb : Binds K fd ps []) (hlen : ∀ i, (Rs i).length = ps.length) (hp : ∀ i, ∀ R ∈ Rs i, PerR R)
    (body : ∀ (cdv : Value) (A : Around) (outer : List Env) (s : Shared) (H : Hp) (E : XK), Room k (A.deeper (envOfC qual (defScope st) s.heap.objs.size f cdv)) → ∀ i, C i →
      PSs (cxOf CX0 P w K mg base N qual (defScope st) f cdv A outer s H E).nox (defBody st) (tSt K (entry (Rs i) N.length) (.nx fun _ => True))) :
    FnD P w K mg base (k + 1) x C Rs fun _ => Dat K .none := by
  refine ⟨f, fd, ps, F.ok S (fun vs H Q E ⟨i, F1, _, _, h, _⟩ => by rw [valsR_len h, hlen i]) (fun cdv A outer s H vs Q E hr ⟨i, F1, c, sh, hv, kk⟩ => ?_), hm, F.kp, hb⟩
  exact ⟨_, body cdv A outer s H E hr i c, F1, H, F1, sv_entry sh hv (hp i), fun e σ F' H' _ _ S' => kk .non F' H' S'.g .non⟩
end
/-- all of them told by what stays -/
class PerAll (Rs : List Rel) : Prop where
  all : ∀ R ∈ Rs, PerR R
instance : PerAll [] := ⟨fun R h => by cases h⟩
instance {R : Rel} {Rs : List Rel} [p : PerR R] [q : PerAll Rs] : PerAll (R :: Rs) := ⟨fun T h => by
  rcases List.mem_cons.mp h with z | z
  · rw [z]; exact p
  · exact q.all T z⟩
/-- where a def of the top stands -/
def DefAt (K : PySem.W.Frag) (mg : Str → Option Value) (x : Str) (st : Stmt) : Prop := ∃ f fd, Fun K x x st f fd ∧ mg x = some (.ref f)
section
variable {P : Program} {w : World} {mg : Str → Option Value} {base : Heap} {ι : Type} {C : ι → Prop} {Rs : ι → List Rel} {R : ι → Rel} {x : Str} {st : Stmt} {N ps : List Str} {k : Nat}
theorem def_D (D : DefAt K mg x st) (S : FnScope N ps (defScope st)) (hb : ∀ f fd, Fun K x x st f fd → Binds K fd ps []) (hp : ∀ i, PerAll (Rs i)) (hlen : ∀ i, (Rs i).length = ps.length)
    (body : ∀ (f : Addr) (cdv : Value) (A : Around) (outer : List Env) (s : Shared) (H : Hp) (E : XK), Room k (A.deeper (envOfC x (defScope st) s.heap.objs.size f cdv)) → ∀ i, C i →
      PSs (cxOf CX0 P w K mg base N x (defScope st) f cdv A outer s H E).nox (defBody st) (tSt K (entry (Rs i) N.length) (.rt (R i)))) :
    FnD P w K mg base (k + 1) x C Rs R := by
  obtain ⟨f, fd, F, hm⟩ := D
  exact fn_D F S hm (hb f fd F) hlen (fun i => (hp i).all) (body f)
theorem def_N (D : DefAt K mg x st) (S : FnScope N ps (defScope st)) (hb : ∀ f fd, Fun K x x st f fd → Binds K fd ps []) (hp : ∀ i, PerAll (Rs i)) (hlen : ∀ i, (Rs i).length = ps.length)
    (body : ∀ (f : Addr) (cdv : Value) (A : Around) (outer : List Env) (s : Shared) (H : Hp) (E : XK), Room k (A.deeper (envOfC x (defScope st) s.heap.objs.size f cdv)) → ∀ i, C i →
      PSs (cxOf CX0 P w K mg base N x (defScope st) f cdv A outer s H E).nox (defBody st) (tSt K (entry (Rs i) N.length) (.nx fun _ => True))) :
    FnD P w K mg base (k + 1) x C Rs fun _ => Dat K .none := by
  obtain ⟨f, fd, F, hm⟩ := D
  exact fn_N F S hm (hb f fd F) hlen (fun i => (hp i).all) (body f)
end
end Dl
/-! the calculus: several names at once -/
namespace Dl
open PySem PySem.Spec PyProof.Rows L2
variable {X : Cx} {K : PySem.W.Frag} {es : List Ent} {a b e : Expr} {pos p2 p3 : Pos}
/-- values on their way to names -/
def Pend (K : PySem.W.Frag) (H F' H' : Hp) : List Ent → List V → Prop
  | [], [] => True
  | .is R :: cs, v :: vs => PerR R ∧ R F' H' v ∧ Pend K H F' H' cs vs
  | .own ds :: cs, v :: vs => (∃ p us, v = .ref p ∧ H p = none ∧ F' p = none ∧ H' p = some (.lst us) ∧ DpAll K F' us ds ∧ ∀ (k : Nat) (ds' : List PyData), cs[k]? = some (.own ds') → vs[k]? ≠ some v) ∧ Pend K H F' H' cs vs
  | _, _ => False
def tCanP (K : PySem.W.Frag) (es cs : List Ent) : TA := fun σ H Q => ∃ F0 H0 F, Sv K es F0 H0 F H σ ∧ ∀ vs F' H', Grow F H F' H' → Pend K H F' H' cs vs → Q vs H'
theorem Pend.older {H H1 F' H' : Hp} (s : Same H H1) : ∀ {cs : List Ent} {vs : List V}, Pend K H1 F' H' cs vs → Pend K H F' H' cs vs
  | [], [], _ => trivial
  | .is R :: cs, v :: vs, h => ⟨h.1, h.2.1, Pend.older s h.2.2⟩
  | .own ds :: cs, v :: vs, ⟨⟨p, us, e, n, r⟩, t⟩ => ⟨⟨p, us, e, s.free n, r⟩, Pend.older s t⟩
  | .no :: _, _, h => by cases h
  | [], _ :: _, h => h.elim
  | .is _ :: _, [], h => h.elim
  | .own _ :: _, [], h => h.elim
theorem Pend.own {H F' H' : Hp} : ∀ {cs : List Ent} {vs : List V} {k : Nat} {ds : List PyData}, Pend K H F' H' cs vs → cs[k]? = some (.own ds) → ∃ p, vs[k]? = some (.ref p) ∧ H p = none
  | .own ds :: cs, v :: vs, 0, _, ⟨⟨p, us, e, n, r⟩, t⟩, h => ⟨p, by rw [e]; rfl, n⟩
  | .is R :: cs, v :: vs, 0, _, _, h => by cases h
  | .own ds :: cs, v :: vs, k + 1, _, ⟨_, t⟩, h => Pend.own (k := k) t h
  | .is R :: cs, v :: vs, k + 1, _, ⟨_, _, t⟩, h => Pend.own (k := k) t h
  | .no :: _, _, _, _, h, _ => by cases h
  | [], _, _, _, _, h => by cases h
  | .is _ :: _, [], _, _, h, _ => h.elim
  | .own _ :: _, [], _, _, h, _ => h.elim
theorem p_nil : PA X [] (tCanP K es []) := pa_imp pa_nil fun σ H Q ⟨F0, H0, F, S, k⟩ => k [] F H (Grow.refl S.fh) trivial
theorem p_is {l : List Expr} {R : Rel} {cs : List Ent} [m : PerR R] (h : PE X e (tCan K es R)) (t : PA X l (tCanP K es cs)) (hs : starEach (e :: l) X.env = (false, eval e X.env) :: starEach l X.env := by rfl) : PA X (e :: l) (tCanP K es (.is R :: cs)) :=
  pa_imp (pa_cons h t hs) fun σ H Q ⟨F0, H0, F, S, k⟩ => ⟨F0, H0, F, S, fun x F1 H1 g1 r1 => ⟨F0, H0, F1, S.grow g1, fun vs F2 H2 g2 r2 => k _ F2 H2 (g1.trans g2) ⟨m, m.m _ _ _ _ _ g2.ff r1, r2.older g1.hh⟩⟩⟩
theorem p_own {l : List Expr} {ds : List PyData} {cs : List Ent} (h : PE X e (tCanL K es (· = ds))) (t : PA X l (tCanP K es cs)) (hs : starEach (e :: l) X.env = (false, eval e X.env) :: starEach l X.env := by rfl) : PA X (e :: l) (tCanP K es (.own ds :: cs)) :=
  pa_imp (pa_cons h t hs) fun σ H Q ⟨F0, H0, F, S, k⟩ => ⟨F0, H0, F, S, fun p us ds' F1 H1 g1 e1 n n1 hp a => ⟨F0, H0, F1, S.grow g1, fun vs F2 H2 g2 r2 => k _ F2 H2 (g1.trans g2)
    ⟨⟨p, us, rfl, n, g2.nw p n1 (by rw [hp]; exact fun z => by cases z), g2.hh _ _ hp, dpAll_mono g2.ff _ _ (e1 ▸ a), fun j ds2 hj z => by
      obtain ⟨q, hq, nq⟩ := r2.own hj
      rw [hq] at z
      cases z
      rw [hp] at nq
      cases nq⟩, r2.older g1.hh⟩⟩⟩
section
variable {F0 H0 F H F' H' : Hp} {σ : L2.St}
theorem Sv.setOwn2 {i : Nat} {ds : List PyData} {p : Addr} {vs : List V} (h' : Sv K es F0 H0 F' H' σ) (n0 : H0 p = none) (np : F' p = none) (hp : H' p = some (.lst vs)) (a : DpAll K F' vs ds)
    (hd : ∀ (j : Nat) (ds' : List PyData), j ≠ i → es[j]? = some (.own ds') → σ[j]? ≠ some (some (.ref p))) : Sv K (es.set i (.own ds)) F0 H0 F' H' (σ.set i (some (.ref p))) := by
  refine ⟨h'.s0, h'.g, by rw [List.length_set, List.length_set]; exact h'.len, fun j e he => ?_, fun j k ds1 ds2 hn h1 h2 => ?_⟩
  · by_cases hj : i = j
    · subst hj
      have hl : i < es.length := by
        have := (List.getElem?_eq_some_iff.mp he).1
        rwa [List.length_set] at this
      rw [List.getElem?_set_self hl] at he
      cases he
      exact ⟨p, vs, get_set_σ (h'.len ▸ hl), n0, np, hp, a⟩
    · rw [List.getElem?_set_ne hj] at he ⊢
      exact h'.ok j e he
  · by_cases hj : i = j
    · subst hj
      have hl : i < es.length := by
        have := (List.getElem?_eq_some_iff.mp h1).1
        rwa [List.length_set] at this
      rw [get_set_σ (h'.len ▸ hl), List.getElem?_set_ne hn]
      exact fun z => hd k _ (Ne.symm hn) (own_at h2 hn) z.symm
    · by_cases hk : i = k
      · subst hk
        have hl : i < es.length := by
          have := (List.getElem?_eq_some_iff.mp h2).1
          rwa [List.length_set] at this
        rw [get_set_σ (h'.len ▸ hl), List.getElem?_set_ne hj]
        exact hd j _ hn (own_at h1 hj)
      · rw [List.getElem?_set_ne hj, List.getElem?_set_ne hk]
        exact h'.df j k ds1 ds2 hn (own_at h1 hj) (own_at h2 hk)
/-- no list of one's own stands in a slot that is from before -/
theorem Sv.old (S : Sv K es F0 H0 F H σ) {p : Addr} (n : H p = none) {j : Nat} {ds : List PyData} (hj : es[j]? = some (.own ds)) : σ[j]? ≠ some (some (.ref p)) := fun z => by
  obtain ⟨q, us, e1, _, _, hq, _⟩ := S.ok j _ hj
  rw [z] at e1
  cases e1
  rw [n] at hq
  cases hq
/-- the words about one pending value -/
theorem Sv.put1 {i : Nat} {c : Ent} {v : V} {cs : List Ent} {vs : List V} (S : Sv K es F0 H0 F H σ) (g : Grow F H F' H') {es1 : List Ent} {σ1 : L2.St} (S1 : Sv K es1 F0 H0 F' H' σ1) (p : Pend K H F' H' (c :: cs) (v :: vs))
    (hd : ∀ ds2, c = .own ds2 → ∀ (j : Nat) (ds' : List PyData) (q : Addr), j ≠ i → es1[j]? = some (.own ds') → v = .ref q → H q = none → σ1[j]? ≠ some (some (.ref q))) : Sv K (es1.set i c) F0 H0 F' H' (σ1.set i (some v)) := by
  cases c with
  | no => cases p
  | is R =>
    obtain ⟨m, r, _⟩ := p
    exact S1.set r
  | own ds =>
    obtain ⟨⟨q, us, e, n, n', hq, a, _⟩, _⟩ := p
    subst e
    exact S1.setOwn2 (S.g.hh.free n) n' hq a fun j ds' hj h => hd ds rfl j ds' q hj h rfl n
end
theorem tail_pend {H F' H' : Hp} {c : Ent} {v : V} {cs : List Ent} {vs : List V} (p : Pend K H F' H' (c :: cs) (v :: vs)) : Pend K H F' H' cs vs := by
  cases c with
  | no => cases p
  | is R => exact p.2.2
  | own ds => exact p.2
theorem head_ne {H F' H' : Hp} {c : Ent} {v : V} {cs : List Ent} {vs : List V} (p : Pend K H F' H' (c :: cs) (v :: vs)) {ds : List PyData} (hc : c = .own ds) {k : Nat} {ds' : List PyData} (hk : cs[k]? = some (.own ds')) : vs[k]? ≠ some v := by
  subst hc
  obtain ⟨⟨q, us, e, n, n', hq, a, d⟩, _⟩ := p
  exact d k ds' hk
theorem set_two {F0 H0 F H F' H' : Hp} {σ : L2.St} {i j : Nat} {c d : Ent} {v w : V} (hij : i ≠ j) (S : Sv K es F0 H0 F H σ) (g : Grow F H F' H') (p : Pend K H F' H' [c, d] [v, w]) : Sv K ((es.set i c).set j d) F0 H0 F' H' ((σ.set i (some v)).set j (some w)) := by
  have S1 := S.put1 g (S.grow g) (i := i) p fun _ _ k ds' q _ h _ n => S.old n h
  refine S.put1 g S1 (i := j) (tail_pend p) fun ds2 hd k ds' q hk h hw n => ?_
  by_cases hki : i = k
  · subst hki
    have hl : i < es.length := by
      have := (List.getElem?_eq_some_iff.mp h).1
      rwa [List.length_set] at this
    rw [List.getElem?_set_self hl] at h
    rw [get_set_σ ((S.grow g).len ▸ hl)]
    intro z
    have z1 : v = .ref q := Option.some.inj (Option.some.inj z)
    exact head_ne p (Option.some.inj h) (k := 0) (ds' := ds2) (by rw [hd]; rfl) (by rw [z1, hw]; rfl)
  · rw [List.getElem?_set_ne hki]
    exact S.old n (own_at h hki)
theorem set_three {F0 H0 F H F' H' : Hp} {σ : L2.St} {i j l : Nat} {c d f : Ent} {v w u : V} (hij : i ≠ j) (hil : i ≠ l) (hjl : j ≠ l) (S : Sv K es F0 H0 F H σ) (g : Grow F H F' H') (p : Pend K H F' H' [c, d, f] [v, w, u]) : Sv K (((es.set i c).set j d).set l f) F0 H0 F' H' (((σ.set i (some v)).set j (some w)).set l (some u)) := by
  have S1 := S.put1 g (S.grow g) (i := i) p fun _ _ k ds' q _ h _ n => S.old n h
  have S2 := S.put1 g S1 (i := j) (tail_pend p) fun ds2 hd k ds' q hk h hw n => by
    by_cases hki : i = k
    · subst hki
      have hl : i < es.length := by
        have := (List.getElem?_eq_some_iff.mp h).1
        rwa [List.length_set] at this
      rw [List.getElem?_set_self hl] at h
      rw [get_set_σ ((S.grow g).len ▸ hl)]
      intro z
      have z1 : v = .ref q := Option.some.inj (Option.some.inj z)
      exact head_ne p (Option.some.inj h) (k := 0) (ds' := ds2) (by rw [hd]; rfl) (by rw [z1, hw]; rfl)
    · rw [List.getElem?_set_ne hki]
      exact S.old n (own_at h hki)
  refine S.put1 g S2 (i := l) (tail_pend (tail_pend p)) fun ds2 hd k ds' q hk h hu n => ?_
  by_cases hkj : j = k
  · subst hkj
    have hl : j < (es.set i c).length := by
      have := (List.getElem?_eq_some_iff.mp h).1
      rwa [List.length_set] at this
    rw [List.getElem?_set_self hl] at h
    rw [get_set_σ (by rw [← S1.len]; exact hl)]
    intro z
    have z1 : w = .ref q := Option.some.inj (Option.some.inj z)
    exact head_ne (tail_pend p) (Option.some.inj h) (k := 0) (ds' := ds2) (by rw [hd]; rfl) (by rw [z1, hu]; rfl)
  · rw [List.getElem?_set_ne hkj]
    have h := own_at h hkj
    by_cases hki : i = k
    · subst hki
      have hl : i < es.length := by
        have := (List.getElem?_eq_some_iff.mp h).1
        rwa [List.length_set] at this
      rw [List.getElem?_set_self hl] at h
      rw [get_set_σ ((S.grow g).len ▸ hl)]
      intro z
      have z1 : v = .ref q := Option.some.inj (Option.some.inj z)
      exact head_ne p (Option.some.inj h) (k := 1) (ds' := ds2) (by rw [hd]; rfl) (by rw [z1, hu]; rfl)
    · rw [List.getElem?_set_ne hki]
      exact S.old n (own_at h hki)
theorem pend_len {H F' H' : Hp} : ∀ {cs : List Ent} {vs : List V}, Pend K H F' H' cs vs → vs.length = cs.length
  | [], [], _ => rfl
  | .is R :: cs, v :: vs, h => congrArg (· + 1) (pend_len h.2.2)
  | .own ds :: cs, v :: vs, h => congrArg (· + 1) (pend_len h.2)
  | .no :: _, _, h => by cases h
  | [], _ :: _, h => h.elim
  | .is _ :: _, [], h => h.elim
  | .own _ :: _, [], h => h.elim
theorem pend_grow {H F' H' F2 H2 : Hp} (g : Grow F' H' F2 H2) : ∀ {cs : List Ent} {vs : List V}, Pend K H F' H' cs vs → Pend K H F2 H2 cs vs
  | [], [], _ => trivial
  | .is R :: cs, v :: vs, ⟨m, r, t⟩ => ⟨m, m.m _ _ _ _ _ g.ff r, pend_grow g t⟩
  | .own ds :: cs, v :: vs, ⟨⟨p, us, e, n, n', hp, a, d⟩, t⟩ => ⟨⟨p, us, e, n, g.nw p n' (by rw [hp]; exact fun z => by cases z), g.hh _ _ hp, dpAll_mono g.ff _ _ a, d⟩, pend_grow g t⟩
  | .no :: _, _, h => by cases h
  | [], _ :: _, h => h.elim
  | .is _ :: _, [], h => h.elim
  | .own _ :: _, [], h => h.elim
section
variable {x y z : Str} {c : Expr} {px py pz pt : Pos} {kt k2 : Nat} {pt2 : Pos} {cx cy cz : Ent}
/-- a, b = e, f: plain locals -/
theorem s_par (i j : Nat) (ha : PA X [a, b] (tCanP K es [cx, cy])) (hc : X.calm = true) (hN : X.N.Nodup) (hij : i ≠ j := by decide) (hi : X.N[i]? = some x := by rfl) (hj : X.N[j]? = some y := by rfl)
    (hx : X.env.scope.names.lookup x = some .local := by rfl) (hy : X.env.scope.names.lookup y = some .local := by rfl)
    (hw : swappedStores [.Tuple [.Name x px, .Name y py] kt pt] (.Tuple [a, b] k2 pt2) X.env = pure (some [x, y]) := by rfl)
    (hs : swapsWithSole [.Tuple [.Name x px, .Name y py] kt pt] (.Tuple [a, b] k2 pt2) pos.line X.env = pure false := by rfl) :
    PS X (.Assign [.Tuple [.Name x px, .Name y py] kt pt] (.Tuple [a, b] k2 pt2) pos) (tSt K es (.nx (· = (es.set i cx).set j cy))) :=
  ps_imp (ps_par hc hN hi hj hij hx hy ha hw hs) fun D σ H ⟨F0, H0, F, S, k⟩ => ⟨F0, H0, F, S, fun vs F' H' g p => by
    have hl := pend_len p
    match vs, hl, p with
    | [v, w], _, p => exact ⟨v, w, rfl, k _ _ F' H' rfl g.ff (set_two hij S g p)⟩⟩
theorem s_par3 (i j l : Nat) (ha : PA X [a, b, c] (tCanP K es [cx, cy, cz])) (hc : X.calm = true) (hN : X.N.Nodup) (hij : i ≠ j := by decide) (hil : i ≠ l := by decide) (hjl : j ≠ l := by decide) (hi : X.N[i]? = some x := by rfl) (hj : X.N[j]? = some y := by rfl) (hl : X.N[l]? = some z := by rfl)
    (hx : X.env.scope.names.lookup x = some .local := by rfl) (hy : X.env.scope.names.lookup y = some .local := by rfl) (hz : X.env.scope.names.lookup z = some .local := by rfl)
    (hw : swappedStores [.Tuple [.Name x px, .Name y py, .Name z pz] kt pt] (.Tuple [a, b, c] k2 pt2) X.env = pure (some [x, y, z]) := by rfl)
    (hs : swapsWithSole [.Tuple [.Name x px, .Name y py, .Name z pz] kt pt] (.Tuple [a, b, c] k2 pt2) pos.line X.env = pure false := by rfl) :
    PS X (.Assign [.Tuple [.Name x px, .Name y py, .Name z pz] kt pt] (.Tuple [a, b, c] k2 pt2) pos) (tSt K es (.nx (· = ((es.set i cx).set j cy).set l cz))) :=
  ps_imp (ps_par3 hc hN hi hj hl hij hil hjl hx hy hz ha hw hs) fun D σ H ⟨F0, H0, F, S, k⟩ => ⟨F0, H0, F, S, fun vs F' H' g p => by
    have hl := pend_len p
    match vs, hl, p with
    | [v, w, u], _, p => exact ⟨v, w, u, rfl, k _ _ F' H' rfl g.ff (set_three hij hil hjl S g p)⟩⟩
/-- a, b = e, f by way of the tuple (a name of a block is among them) -/
theorem s_tup2 (i j : Nat) {l : List Expr} {tg : Expr} (ha : PA X l (tCanP X.K es [cx, cy])) (hij : i ≠ j) (hg : PG X tg (gTup X.K 2 (gCons (gName i) (gCons (gName j) gNil)))) (hs : swapsWithSole [tg] (.Tuple l k2 pt2) pos.line X.env = pure false := by rfl) (hw : swappedStores [tg] (.Tuple l k2 pt2) X.env = pure none := by rfl)
    (h1 : (assignEach [tg] X.env).map (·.2) = [assign tg X.env] := by rfl) : PS X (.Assign [tg] (.Tuple l k2 pt2) pos) (tSt X.K es (.nx (· = (es.set i cx).set j cy))) :=
  ps_imp (ps_asg (pe_tup ha) hg hs hw h1) fun D σ H ⟨F0, H0, F, S, k⟩ => ⟨F0, H0, F, S, fun vs F' H' g p => by
    have hl := pend_len p
    match vs, hl, p with
    | [v, w], _, p =>
      refine ⟨by show 2 ≤ sizeLine; decide, fun T n => ?_⟩
      have g2 := Grow.newH (o := .tup [v, w]) g.fh n
      exact ⟨T, [v, w], rfl, .inl (.inl upd_same), rfl, v, [w], rfl, w, [], rfl, rfl, k _ _ F' _ rfl g.ff (set_two hij S (g.trans g2) (pend_grow g2 p))⟩⟩
theorem s_tup3 (i j m : Nat) {l : List Expr} {tg : Expr} (ha : PA X l (tCanP X.K es [cx, cy, cz])) (hij : i ≠ j) (him : i ≠ m) (hjm : j ≠ m) (hg : PG X tg (gTup X.K 3 (gCons (gName i) (gCons (gName j) (gCons (gName m) gNil))))) (hs : swapsWithSole [tg] (.Tuple l k2 pt2) pos.line X.env = pure false := by rfl) (hw : swappedStores [tg] (.Tuple l k2 pt2) X.env = pure none := by rfl)
    (h1 : (assignEach [tg] X.env).map (·.2) = [assign tg X.env] := by rfl) : PS X (.Assign [tg] (.Tuple l k2 pt2) pos) (tSt X.K es (.nx (· = ((es.set i cx).set j cy).set m cz))) :=
  ps_imp (ps_asg (pe_tup ha) hg hs hw h1) fun D σ H ⟨F0, H0, F, S, k⟩ => ⟨F0, H0, F, S, fun vs F' H' g p => by
    have hl := pend_len p
    match vs, hl, p with
    | [v, w, u], _, p =>
      refine ⟨by show 3 ≤ sizeLine; decide, fun T n => ?_⟩
      have g2 := Grow.newH (o := .tup [v, w, u]) g.fh n
      exact ⟨T, [v, w, u], rfl, .inl (.inl upd_same), rfl, v, [w, u], rfl, w, [u], rfl, u, [], rfl, rfl, k _ _ F' _ rfl g.ff (set_three hij him hjm S (g.trans g2) (pend_grow g2 p))⟩⟩
end
/-- some data: which it is -/
theorem ss_ex {st : List Stmt} {o : Out} (i : Nat) {P : PyData → Prop} (h : ∀ d, P d → PSs X st (tSt K (es.set i (.is (Dat K d))) o)) (hi : es[i]? = some (.is (ExD K P)) := by rfl) : PSs X st (tSt K es o) :=
  pss_imp (pss_hyp h) fun D σ H ⟨F0, H0, F, S, k⟩ => by
    obtain ⟨m, v, e, d, pd, r⟩ := S.ok i _ hi
    refine ⟨d, pd, F0, H0, F, ?_, k⟩
    have S' := S.set (i := i) (R := Dat K d) r
    have hl : i < σ.length := by
      have := (List.getElem?_eq_some_iff.mp e).1
      exact this
    have eσ : σ.set i (some v) = σ := by
      refine List.ext_getElem? fun j => ?_
      by_cases hj : i = j
      · subst hj
        rw [get_set_σ hl, e]
      · rw [List.getElem?_set_ne hj]
    rw [eσ] at S'
    exact S'
end Dl
/-! the calculus: some data, told by words -/
namespace Dl
open PySem PySem.Spec PyProof.Rows L2
variable {X : Cx} {K : PySem.W.Frag} {es : List Ent} {a b e : Expr} {pos p2 p3 : Pos}
theorem ss_to {st : List Stmt} {o : Out} (es' : List Ent) (h : PSs X st (tSt K es' o)) (q : es = es' := by rfl) : PSs X st (tSt K es o) := q ▸ h
def AllR {ι : Type} (Q : ι → PyData → Prop) : List ι → List PyData → Prop
  | [], [] => True
  | x :: xs, d :: ds => Q x d ∧ AllR Q xs ds
  | _, _ => False
theorem allR_eq {ι : Type} {f : ι → PyData} : ∀ {xs : List ι} {ds : List PyData}, AllR (fun x d => d = f x) xs ds → ds = xs.map f
  | [], [], _ => rfl
  | x :: xs, d :: ds, h => by rw [h.1, allR_eq h.2]; rfl
  | [], _ :: _, h => h.elim
  | _ :: _, [], h => h.elim
theorem allR_app {ι : Type} {Q : ι → PyData → Prop} {x : ι} {d : PyData} (q : Q x d) : ∀ {xs : List ι} {ds : List PyData}, AllR Q xs ds → AllR Q (xs ++ [x]) (ds ++ [d])
  | [], [], _ => ⟨q, trivial⟩
  | y :: xs, e :: ds, h => ⟨h.1, allR_app q h.2⟩
  | [], _ :: _, h => h.elim
  | _ :: _, [], h => h.elim
theorem allR_len {ι : Type} {Q : ι → PyData → Prop} : ∀ {xs : List ι} {ds : List PyData}, AllR Q xs ds → ds.length = xs.length
  | [], [], _ => rfl
  | x :: xs, d :: ds, h => congrArg (· + 1) (allR_len h.2)
  | [], _ :: _, h => h.elim
  | _ :: _, [], h => h.elim
/-- some items walked -/
def tCanIG (K : PySem.W.Frag) (es : List Ent) {ι : Type} (enc : ι → PyData) (Pxs : List ι → Prop) : TI := fun σ H R => ∃ F0 H0 F, Sv K es F0 H0 F H σ ∧ ∀ J F1 H1 xs, Grow F H F1 H1 → Pxs xs → WalkD K J F1 (xs.map enc) → R J H1
theorem i_exact {ι : Type} {enc : ι → PyData} {xs : List ι} {tg it : Expr} (h : PI X tg it (tCanI K es (xs.map enc))) : PI X tg it (tCanIG K es enc (· = xs)) :=
  pi_imp h fun σ H R ⟨F0, H0, F, S, k⟩ => ⟨F0, H0, F, S, fun J F1 H1 g w => k J F1 H1 xs g rfl w⟩
theorem i_lstG {ι : Type} {enc : ι → PyData} {Pxs : List ι → Prop} {tg : Expr} (h : PE X a (tCan X.K es (ExD X.K fun d => ∃ xs, Pxs xs ∧ d = .list (xs.map enc)))) : PI X tg a (tCanIG X.K es enc Pxs) :=
  pi_imp (pi_list h) fun σ H R ⟨F0, H0, F, S, k⟩ => ⟨F0, H0, F, S, fun x F1 H1 g ⟨d, ⟨xs, px, ed⟩, r⟩ => by
    subst ed
    obtain ⟨p, vs, e, hs, ha⟩ := dat_lst (H := H1) r
    exact ⟨p, e, ⟨vs, g.fh.seq hs⟩, k _ F1 H1 xs g px (walkD_at (walk_list.mono (fun _ s => s.seq hs) fun _ _ _ _ _ _ y => y) ha)⟩⟩
section
variable {ι : Type} {enc : ι → PyData} {Pxs : List ι → Prop} {c : ι → Bool} {Qf : ι → PyData → Prop} {elt tg iter : Expr} {ifs : List Expr} {scope : Scope} {own : List (Str × Nat)} {g : TG} {φ : ι → List Ent → List Ent} {js : List Nat}
theorem lc_canG (hz : ∀ xs, Pxs xs → xs.length ≤ 100000) (ht : ∀ xs, Pxs xs → ∀ x ∈ xs, Tg K g (enc x) (φ x) js) (hjs : ∀ j ∈ js, j ∈ own.map (·.2)) (σ : L2.St) (H : Hp) (Q : VK) (q : tCanL K es (fun ds => ∃ xs, Pxs xs ∧ AllR Qf (xs.filter c) ds) σ H Q) :
    tLc (tCanIG K es enc Pxs) g (fun σ H Q => ∃ x, (∃ xs, Pxs xs ∧ x ∈ xs) ∧ tCanT K (φ x (wipeE es (own.map (·.2)))) (c x) σ H Q)
      (fun σ H Q => ∃ x, ((∃ xs, Pxs xs ∧ x ∈ xs) ∧ c x = true) ∧ tCan K (φ x (wipeE es (own.map (·.2)))) (ExD K (Qf x)) σ H Q) (own.map (·.2)) σ H Q := by
  obtain ⟨F0, H0, F, S, k⟩ := q
  refine ⟨F0, H0, F, S, fun J F1 H1 xs g1 px w D hD => ?_⟩
  have hlen : (xs.map enc).length = xs.length := List.length_map ..
  unfold WalkD at w
  rw [hlen] at w
  refine lc_it (g := g) (tt := fun σ H Q => ∃ x, (∃ xs, Pxs xs ∧ x ∈ xs) ∧ tCanT K (φ x (wipeE es (own.map (·.2)))) (c x) σ H Q) (te := fun σ H Q => ∃ x, ((∃ xs, Pxs xs ∧ x ∈ xs) ∧ c x = true) ∧ tCan K (φ x (wipeE es (own.map (·.2)))) (ExD K (Qf x)) σ H Q) (vs := own.map (·.2)) (σ := σ) (H1 := H1) (D := D) (Qd := Q (.ref D)) w
    (fun i H' => ∃ F' vs ds, Grow F1 H1 F' H' ∧ F' D = none ∧ H' D = some (.lst vs) ∧ vs.length ≤ i ∧ AllR Qf ((xs.take i).filter c) ds ∧ DpAll K F' vs ds) ?_ ?_ ?_ ?_
  · exact ⟨F1, [], [], Grow.newH g1.fh hD, g1.fh.free hD, upd_same, Nat.le_refl _, trivial, .nil⟩
  · rintro i H' _ ⟨F', vs, ds, g2, _⟩
    exact g2.ff.trans g2.fh
  · rintro i x H2 H3 hi ⟨F2, vs, ds, g2, n2, hvs, hl, ar, a2⟩ y
    obtain ⟨F3, g3, d, hd, pd⟩ := y F2 g2.ff g2.fh
    have hx : xs[i]? = some xs[i] := List.getElem?_eq_getElem hi
    rw [List.getElem?_map, hx] at hd
    cases hd
    have hxm : xs[i] ∈ xs := List.getElem_mem hi
    have g13 := g2.trans g3
    have n3 : F3 D = none := g3.nw D n2 (by rw [hvs]; exact fun z => by cases z)
    have h3 : H3 D = some (.lst vs) := g3.hh _ _ hvs
    have S3 : Sv K (wipeE es (own.map (·.2))) F0 H0 F3 H3 (L2.wipe σ (own.map (·.2))) := (S.grow (g1.trans g13)).wipe _
    have et : xs.take (i + 1) = xs.take i ++ [xs[i]] := by rw [List.take_add_one, hx]; rfl
    refine (ht xs px _ hxm).run _ F0 H0 F3 H3 _ x _ S3 pd fun σ' S' hl' hσ' => ⟨?_, xs[i], ⟨xs, px, hxm⟩, F0, H0, F3, S', fun F4 H4 g4 => ?_⟩
    · rw [wipe_eq (σ := σ') (τ := L2.wipe σ (own.map (·.2))) _ hl' fun j hj => hσ' j fun z => hj (hjs j z), wipe_idem]
    · have n4 : F4 D = none := g4.nw D n3 (by rw [h3]; exact fun z => by cases z)
      have h4 : H4 D = some (.lst vs) := g4.hh _ _ h3
      cases hc : c xs[i] with
      | false =>
        simp only [Bool.false_eq_true, if_false]
        refine ⟨F4, vs, ds, g13.trans g4, n4, h4, Nat.le_succ_of_le hl, ?_, dpAll_mono (g3.ff.trans g4.ff) _ _ a2⟩
        rw [et, List.filter_append, List.filter_cons, if_neg (by rw [hc]; decide), List.filter_nil, List.append_nil]
        exact ar
      | true =>
        simp only [if_true]
        refine ⟨xs[i], ⟨⟨xs, px, hxm⟩, hc⟩, F0, H0, F4, S'.grow g4, fun v F5 H5 g5 ⟨d5, q5, r5⟩ => ?_⟩
        have n5 : F5 D = none := g5.nw D n4 (by rw [h4]; exact fun z => by cases z)
        have h5 : H5 D = some (.lst vs) := g5.hh _ _ h4
        have g15 := (g13.trans g4).trans g5
        refine ⟨vs, h5, Nat.lt_of_le_of_lt (Nat.le_trans hl (Nat.le_trans (Nat.le_of_lt hi) (hz xs px))) (by decide), F5, vs ++ [v], ds ++ [d5], g15.mut hD n5, n5, upd_same, by rw [List.length_append]; simp; exact hl, ?_, ?_⟩
        · rw [et, List.filter_append, List.filter_cons, if_pos hc, List.filter_nil]
          exact allR_app q5 ar
        · exact dpa_app (dpAll_mono ((g3.ff.trans g4.ff).trans g5.ff) _ _ a2) (.cons r5 .nil)
  · rintro H' ⟨F', vs, ds, g2, n2, hvs, _, ar, a2⟩
    rw [List.take_length] at ar
    exact k D vs ds F' H' (g1.trans g2) ⟨xs, px, ar⟩ (g1.hh.free hD) n2 hvs a2
theorem e_lcG (hc : X.calm = true) (hN : X.N.Nodup) (hi : PI X tg iter (tCanIG X.K es enc Pxs)) (ok : BlkOk X.N X.env.scope scope own)
    (hg : ∀ (s : Shared) (H : Hp) (C : Addr) (cl : List (Str × Addr)) (fp : List Addr), PG (X.blk s H scope (compEnvC scope cl C X.env) fp) tg g) (ht : ∀ xs, Pxs xs → ∀ x ∈ xs, Tg X.K g (enc x) (φ x) js) (hjs : ∀ j ∈ js, j ∈ own.map (·.2))
    (hcn : ∀ xs, Pxs xs → ∀ x ∈ xs, ∀ (s : Shared) (H : Hp) (C : Addr) (cl : List (Str × Addr)) (fp : List Addr), PTs (X.blk s H scope (compEnvC scope cl C X.env) fp) ifs (tCanT X.K (φ x (wipeE es (own.map (·.2)))) (c x)))
    (he : ∀ xs, Pxs xs → ∀ x ∈ xs, c x = true → ∀ (s : Shared) (H : Hp) (C : Addr) (cl : List (Str × Addr)) (fp : List Addr), PE (X.blk s H scope (compEnvC scope cl C X.env) fp) elt (tCan X.K (φ x (wipeE es (own.map (·.2)))) (ExD X.K (Qf x))))
    (hz : ∀ xs, Pxs xs → xs.length ≤ 100000) (hs : ∀ x, foldedSetIterable iter X.env x = pure x := by intro _; rfl) :
    PE X (.ListComp elt [⟨tg, iter, ifs, 0⟩] scope pos) (tCanL X.K es fun ds => ∃ xs, Pxs xs ∧ AllR Qf (xs.filter c) ds) :=
  pe_imp (pe_lc hc hN hi ok hg (fun s H C cl fp => ⟨fun pins s' σ H' Q I ⟨x, ⟨xs, px, hx⟩, q⟩ => (hcn xs px x hx s H C cl fp).run pins s' σ H' Q I q⟩)
    (fun s H C cl fp => ⟨fun pins s' σ H' Q I ⟨x, ⟨⟨xs, px, hx⟩, hcx⟩, q⟩ => (he xs px x hx hcx s H C cl fp).run pins s' σ H' Q I q⟩) hs) (lc_canG hz ht hjs)
/-- name = [..] on one line -/
theorem s_lcG (i : Nat) {y : Str} {py spos : Pos} (hc : X.calm = true) (hN : X.N.Nodup) (hi : PI X tg iter (tCanIG X.K es enc Pxs)) (ok : BlkOk X.N X.env.scope scope own)
    (hg : ∀ (s : Shared) (H : Hp) (C : Addr) (cl : List (Str × Addr)) (fp : List Addr), PG (X.blk s H scope (compEnvC scope cl C X.env) fp) tg g) (ht : ∀ xs, Pxs xs → ∀ x ∈ xs, Tg X.K g (enc x) (φ x) js) (hjs : ∀ j ∈ js, j ∈ own.map (·.2))
    (hcn : ∀ xs, Pxs xs → ∀ x ∈ xs, ∀ (s : Shared) (H : Hp) (C : Addr) (cl : List (Str × Addr)) (fp : List Addr), PTs (X.blk s H scope (compEnvC scope cl C X.env) fp) ifs (tCanT X.K (φ x (wipeE es (own.map (·.2)))) (c x)))
    (he : ∀ xs, Pxs xs → ∀ x ∈ xs, c x = true → ∀ (s : Shared) (H : Hp) (C : Addr) (cl : List (Str × Addr)) (fp : List Addr), PE (X.blk s H scope (compEnvC scope cl C X.env) fp) elt (tCan X.K (φ x (wipeE es (own.map (·.2)))) (ExD X.K (Qf x))))
    (hz : ∀ xs, Pxs xs → xs.length ≤ 100000) (hy : X.N[i]? = some y := by rfl) (hyl : X.env.scope.names.lookup y = some .local := by rfl) (hsw : swapsWith (.ListComp elt [⟨tg, iter, ifs, 0⟩] scope pos) (some (.Name y py)) spos.line X.env = pure true := by rfl) (hs : ∀ x, foldedSetIterable iter X.env x = pure x := by intro _; rfl) :
    PS X (.Assign [.Name y py] (.ListComp elt [⟨tg, iter, ifs, 0⟩] scope pos) spos) (tSt X.K es (.nx fun e => ∃ ds, (∃ xs, Pxs xs ∧ AllR Qf (xs.filter c) ds) ∧ e = es.set i (.own ds))) :=
  ps_imp (ps_setLc hc hN hy hyl hsw hi ok hg (fun s H C cl fp => ⟨fun pins s' σ H' Q I ⟨x, ⟨xs, px, hx⟩, q⟩ => (hcn xs px x hx s H C cl fp).run pins s' σ H' Q I q⟩)
    (fun s H C cl fp => ⟨fun pins s' σ H' Q I ⟨x, ⟨⟨xs, px, hx⟩, hcx⟩, q⟩ => (he xs px x hx hcx s H C cl fp).run pins s' σ H' Q I q⟩) hs) fun D σ H ⟨F0, H0, F, S, k⟩ =>
      lc_canG hz ht hjs σ H _ ⟨F0, H0, F, S, fun p vs ds' F' H' gr pd n n' hp a => k _ _ F' H' ⟨ds', pd, rfl⟩ gr.ff (S.setOwn n gr S n' hp a)⟩
end
/-- any(..) of some list of bools -/
theorem e_anyG {ι : Type} {Pxs : List ι → Prop} {p : ι → Bool} (hc : X.calm = true) (hm : X.mg "any" = none) (h : PE X e (tCanL X.K es fun ds => ∃ xs, Pxs xs ∧ ds = xs.map fun x => .bool (p x))) (hg : Gl X "any" := by rfl) (he : starEach [e] X.env = (false, eval e X.env) :: starEach [] X.env := by rfl) :
    PE X (.Call (.Name "any" p2) [e] [] pos) (tCan X.K es (ExD X.K fun d => ∃ xs, Pxs xs ∧ d = .bool (xs.any p))) :=
  pe_imp (pe_callB (cr_any hc) hg hm boot_any (pa_cons h pa_nil he) (he := he)) fun σ H Q ⟨F0, H0, F, S, k⟩ => ⟨F0, H0, F, S, fun q vs ds F1 H1 g ⟨xs, px, ed⟩ n n' hp ha => by
    subst ed
    have ev := bls_of ha
    subst ev
    refine ⟨q, xs.map p, rfl, .inl (.inl hp), ?_⟩
    have eb : (xs.map p).any id = xs.any p := by rw [List.any_map]; rfl
    rw [eb]
    exact k _ F1 H1 g ⟨_, ⟨xs, px, rfl⟩, .bl _⟩⟩
theorem e_notG {P : Bool → Prop} (h : PE X a (tCan K es (ExD K fun d => ∃ c, P c ∧ d = .bool c))) : PE X (.UnaryOp .Not a pos) (tCan K es (ExD K fun d => ∃ c, P c ∧ d = .bool (!c))) :=
  pe_imp (pe_not h) fun σ H Q ⟨F0, H0, F, S, k⟩ => ⟨F0, H0, F, S, fun v F1 H1 g ⟨d, ⟨c, pc, ed⟩, r⟩ => by
    subst ed
    cases r
    exact ⟨c, rfl, k _ F1 H1 g ⟨_, ⟨c, pc, rfl⟩, .bl _⟩⟩⟩
theorem e_orG {c : Bool} {r : List Expr} {R : Rel} (ha : PE X a (tCan K es (Dat K (.bool c)))) (hR : c = true → ∀ F H, R F H (.bl true)) (hb : c = false → PE X (.BoolOp .Or (b :: r) pos) (tCan K es R)) : PE X (.BoolOp .Or (a :: b :: r) pos) (tCan K es R) :=
  pe_imp (pe_or ha (pe_hyp hb)) fun σ H Q ⟨F0, H0, F, S, k⟩ => ⟨F0, H0, F, S, fun v F1 H1 g r => ⟨c, dat_bl r, by
    cases c with
    | true => exact k _ F1 H1 g (hR rfl F1 H1)
    | false => exact ⟨rfl, F0, H0, F1, S.grow g, fun v F2 H2 g2 r2 => k v F2 H2 (g.trans g2) r2⟩⟩⟩
theorem e_toG {d : PyData} {P : PyData → Prop} (h : PE X a (tCan K es (Dat K d))) (p : P d) : PE X a (tCan K es (ExD K P)) := e_weak h fun F H v _ r => ⟨d, p, r⟩
theorem e_wkG {P P' : PyData → Prop} (h : PE X a (tCan K es (ExD K P))) (w : ∀ d, P d → P' d) : PE X a (tCan K es (ExD K P')) := e_weak h fun F H v _ ⟨d, p, r⟩ => ⟨d, w d p, r⟩
theorem e_wkL {P P' : List PyData → Prop} (h : PE X a (tCanL K es P)) (w : ∀ d, P d → P' d) : PE X a (tCanL K es P') := pe_imp h fun σ H Q ⟨F0, H0, F, S, k⟩ => ⟨F0, H0, F, S, fun p vs ds F' H' g pd => k p vs ds F' H' g (w ds pd)⟩
theorem pe_hypL {e : Expr} {R : List PyData → Prop} {P : Prop} (h : P → PE X e (tCanL K es R)) : PE X e (fun σ H Q => P ∧ tCanL K es R σ H Q) := ⟨fun pins s σ H Q I ⟨p, q⟩ => (h p).run pins s σ H Q I q⟩
theorem e_ifL {t : Expr} {c : Bool} {R : List PyData → Prop} (ht : PT X t (tCanT K es c)) (ha : c = true → PE X a (tCanL K es R)) (hb : c = false → PE X b (tCanL K es R)) : PE X (.IfExp t a b pos) (tCanL K es R) :=
  pe_imp (pe_ifExp ht (pe_hypL ha) (pe_hypL hb)) fun σ H Q ⟨F0, H0, F, S, k⟩ => ⟨F0, H0, F, S, fun F1 H1 g => by
    cases c with
    | true => exact ⟨rfl, F0, H0, F1, S.grow g, fun p vs ds F2 H2 g2 pd n => k p vs ds F2 H2 (g.trans g2) pd (g.hh.free n)⟩
    | false => exact ⟨rfl, F0, H0, F1, S.grow g, fun p vs ds F2 H2 g2 pd n => k p vs ds F2 H2 (g.trans g2) pd (g.hh.free n)⟩⟩
end Dl
/-! the calculus: tuples and calls of some data; a tuple times one -/
namespace Dl
open PySem PySem.Spec PyProof.Rows L2
theorem tuple_mul1 (l : Addr) (items : Array Value) (n : Nat) (dd : Option Addr) (sl : Array (Option Value)) (u : Tok) :
    Meets (Builtin.«tuple.__mul__» ⟨[.ref l, .int 1 u], []⟩) (fun _ R s => s.heap.get? l = some { cls := .type "tuple", dict := dd, data := .seq items n, slots := sl } ∧ R (.ok (.ret (Value.ref l))) s) :=
  .of_wp fun prog w A R s h => by
    obtain ⟨hp, g, d, tk, os⟩ := s
    obtain ⟨hl, h⟩ := h
    have f1 := AutoSeq1.idx_int
    have c0 : (decide ((1 : Int) < -(2 ^ 63)) || decide ((1 : Int) ≥ 2 ^ 63)) = false := by decide
    have c1 : (items.isEmpty || (1 : Int) == 1) = true := by simp
    wp_walk using wpAny_loadPart' hl
    repeat (first
      | (refine wpAny_ite_false (decide_eq_false (by rw [c0]; exact Bool.false_ne_true)) ?_; wp_walk using wpAny_loadPart' hl)
      | (refine wpAny_ite_true (decide_eq_true (by rw [c1])) ?_; wp_walk using wpAny_loadPart' hl))
    exact ⟨_, rfl, h⟩
theorem flat_one (d : PyData) : ∀ n, (List.replicate n [d]).flatten = List.replicate n d
  | 0 => rfl
  | n + 1 => by rw [List.replicate_succ, List.flatten_cons, flat_one d n]; rfl
def rRep1 (K : PySem.W.Frag) : R2 := fun x y H Q => ∃ l xs, x = .ref l ∧ y = .int 1 ∧ SqT K H l xs ∧ Q (.ref l) H
section
variable {X : Cx} {K : PySem.W.Frag} {es : List Ent} {a b e : Expr} {pos p2 p3 : Pos}
theorem op_rep1 : OpR X (binaryOp .Mult) (rRep1 X.K) := by
  intro pins s σ H x y v u Q I rx ry h
  obtain ⟨l, xs, rfl, rfl, hT, q⟩ := h
  cases rx
  obtain ⟨t, rfl⟩ := ry
  obtain ⟨its, r, ⟨⟨cls, dd, data, sl⟩, ho, hc, n, hd⟩, hs⟩ := I.tuple hT
  simp only at hc hd
  subst hc hd
  exact wpAny_binaryOp_repeat_ref (T := "tuple") (U := "int") (by decide) ⟨_, ho, rfl⟩ (fun s' => typeIs_int s' 1 t) noFill_tuple_mul F.fills_int_mul F.slot_int_rmul repeat_tuple F.slot_int_index.lookup
    (call_meets F.slot_int_rmul (typeIs_int s 1 t) F.entry_int_rmul (F.args_int_rmul_2 _ _) (int_rmul_tuple 1 t l its.toArray n dd sl)
      ⟨ho, rfl, ⟨_, ho, rfl⟩, call_meets F.slot_tuple_mul ⟨_, ho, rfl⟩ F.entry_tuple_mul (F.args_tuple_mul_2 _ _) (tuple_mul1 l its.toArray n dd sl t) ⟨ho, .ref l, H, I, rfl, q⟩⟩)
theorem e_rep1 {ds : List PyData} (ha : PE X a (tCan X.K es (Dat X.K (.tuple ds)))) (hb : PE X b (tCan X.K es (Dat X.K (.int 1)))) : PE X (.BinOp a .Mult b pos) (tCan X.K es (Dat X.K (.tuple ds))) :=
  e_op op_rep1 ha hb fun x y F H Q s hx hy k => by
    obtain ⟨p, vs, e, hs, ha⟩ := dat_tup hx
    subst e
    exact ⟨p, vs, rfl, dat_int hy, seqT s hs, can_now (R := Dat X.K (.tuple ds)) s hx k⟩
/-- (None,) * w, w one or two -/
theorem e_repW {d : PyData} {w : Nat} (ha : PE X a (tCan X.K es (Dat X.K (.tuple [d])))) (hb : PE X b (tCan X.K es (Dat X.K (.int w)))) (h1 : 1 ≤ w) (h2 : w ≤ 1000) : PE X (.BinOp a .Mult b pos) (tCan X.K es (Dat X.K (.tuple (List.replicate w d)))) := by
  by_cases h : w = 1
  · subst h
    exact e_rep1 ha hb
  · refine e_is (e_repT ha hb (by omega) (by omega) (by simp) (by simp)) ?_
    rw [Int.toNat_natCast]
    congr 1
    exact flat_one d w
theorem e_tupG {l : List Expr} {j : Nat} {Rs : List Rel} {P : PyData → Prop} (h : PA X l (tCanA K es Rs)) (hz : Rs.length ≤ 100000) (hR : ∀ F H vs, Same F H → ValsR Rs F H vs → ∃ ds, P (.tuple ds) ∧ DpAll K F vs ds) : PE X (.Tuple l j pos) (tCan K es (ExD K P)) :=
  pe_imp (pe_tup h) fun σ H Q ⟨F0, H0, F, S, k⟩ => ⟨F0, H0, F, S, fun vs F1 H1 g1 a => by
    obtain ⟨ds, p, hd⟩ := hR F1 H1 vs g1.fh a
    refine ⟨by rw [valsR_len a]; exact Nat.le_trans hz (by decide), tup_at g1 hd fun v F' H' g r => k v F' H' g ⟨_, p, r⟩⟩⟩
theorem e_tupleG {P : List PyData → Prop} (hm : X.mg "tuple" = none) (h : PE X e (tCanL X.K es P)) (hg : Gl X "tuple" := by rfl) (he : starEach [e] X.env = (false, eval e X.env) :: starEach [] X.env := by rfl) :
    PE X (.Call (.Name "tuple" p2) [e] [] pos) (tCan X.K es (ExD X.K fun d => ∃ ds, P ds ∧ d = .tuple ds)) :=
  pe_imp (pe_callTy call_tuple_of hg hm boot_tuple (pa_cons h pa_nil he) (he := he)) fun σ H Q ⟨F0, H0, F, S, k⟩ => ⟨F0, H0, F, S, fun p vs ds F1 H1 g pd n n' hp a =>
    ⟨p, vs, rfl, .inl ⟨.inl (.inl hp), tup_at g a fun v F' H' g' r => k v F' H' g' ⟨_, ⟨ds, pd, rfl⟩, r⟩⟩⟩⟩
theorem e_callG {P : Program} {w : World} {mg : Str → Option Value} {base : Heap} {k : Nat} {x : Str} {ι : Type} {C : ι → Prop} {Rs : ι → List Rel} {R : ι → Rel} {R' : Rel} {Rs' : List Rel} {l : List Expr} (F : FnD P w K mg base k x C Rs R) (hr : Room k X.A) (ha : PA X (e :: l) (tCanA K es Rs'))
    (hi : ∀ F H vs, Same F H → ValsR Rs' F H vs → ∃ i, C i ∧ ValsR (Rs i) F H vs ∧ ∀ F' H' v, R i F' H' v → R' F' H' v)
    (x1 : X.prog = P := by rfl) (x2 : X.w = w := by rfl) (x3 : X.K = K := by rfl) (x4 : X.mg = mg := by rfl) (x5 : X.base = base := by rfl) (hg : Gl X x := by rfl) (hdb : (x == ("__debug__" : Str)) = false := by decide)
    (he : starEach (e :: l) X.env = (false, eval e X.env) :: starEach l X.env := by rfl) (hpl : (backTo pos (starEach l X.env)).any (·.1) = false := by rfl) : PE X (.Call (.Name x p2) (e :: l) [] pos) (tCan K es R') := by
  subst x1; subst x2; subst x3; subst x4; subst x5
  obtain ⟨f, fd, ps, F, hm, hk, hb⟩ := F.ex
  refine pe_imp (pe_call F hr hg hm hk hb .nil pass0 ha hdb he hpl) fun σ H Q ⟨F0, H0, F, S, k⟩ => ⟨F0, H0, F, S, fun vs F1 H1 g1 r1 => ?_⟩
  show spD X.K C Rs R (vs ++ []) H1 Q E0
  rw [List.append_nil]
  obtain ⟨i, c, r2, w2⟩ := hi F1 H1 vs g1.fh r1
  exact ⟨i, F1, c, g1.fh, r2, fun v F' H' g r => k v F' H' (g1.trans g) (w2 _ _ _ r)⟩
end
end Dl
/-! the calculus: a comprehension of two clauses -/
namespace Dl
open PySem PySem.Spec PyProof.Rows L2
variable {X : Cx} {K : PySem.W.Frag} {es : List Ent} {a b e : Expr} {pos p2 p3 : Pos}
theorem walk_w1 {J : It} {n : Nat} {G : Hp → Prop} {Y : Nat → Hp → V → Hp → Prop} (w : L2.Walk J n G Y) {Nx : Hp → Prop} {Bd : (Hp → Prop) → V → Hp → Prop} {H4 : Hp} (Pv : Nat → Hp → Prop) (h0 : Pv 0 H4) (hG : ∀ i H, i ≤ n → Pv i H → G H)
    (hs : ∀ i x H H', i < n → Pv i H → Y i H x H' → Bd (Pv (i + 1)) x H') (hd : ∀ H, Pv n H → Nx H) :
    ∃ W1 : Nat → Nat → Hp → Prop, (∃ m, W1 0 m H4) ∧ ∀ j k H, W1 j k H → (J.stop j H ∧ Nx H) ∨ (J.go j H ∧ ∃ Nx1 : Hp → Prop, (∀ H', Nx1 H' → ∃ k', k' < k ∧ W1 (j + 1) k' H') ∧ ∀ x H', J.yld j H x H' → Bd Nx1 x H') := by
  refine ⟨fun i m H => m = n - i ∧ i ≤ n ∧ Pv i H, ⟨n, by simp, Nat.zero_le _, h0⟩, ?_⟩
  rintro i m H ⟨rfl, hi, p⟩
  have q := hG i H hi p
  by_cases hlt : i < n
  · exact .inr ⟨w.goes i H hlt q, Pv (i + 1), fun H' p' => ⟨n - (i + 1), by omega, rfl, hlt, p'⟩, fun x H' y => hs i x H H' hlt p (w.yields i H x H' hlt q y)⟩
  · have e : i = n := by omega
    subst e
    exact .inl ⟨w.stops H q, hd H p⟩
theorem e_lc2 {ι κ : Type} {xs : List ι} {ys : List κ} {enc : ι → PyData} {enc1 : κ → PyData} {f : ι → κ → PyData} {elt tg iter tg1 iter1 : Expr} {scope : Scope} {own : List (Str × Nat)} (j j1 : Nat) (hc : X.calm = true) (hN : X.N.Nodup) (hi : PI X tg iter (tCanI X.K es (xs.map enc))) (ok : BlkOk X.N X.env.scope scope own)
    (hj : j ∈ own.map (·.2)) (hj1 : j1 ∈ own.map (·.2))
    (hg : ∀ (s : Shared) (H : Hp) (C : Addr) (cl : List (Str × Addr)) (fp : List Addr), PG (X.blk s H scope (compEnvC scope cl C X.env) fp) tg (gName j))
    (hi1 : ∀ x ∈ xs, ∀ (s : Shared) (H : Hp) (C : Addr) (cl : List (Str × Addr)) (fp : List Addr), PI (X.blk s H scope (compEnvC scope cl C X.env) fp) tg1 iter1 (tCanI X.K ((wipeE es (own.map (·.2))).set j (.is (Dat X.K (enc x)))) (ys.map enc1)))
    (hg1 : ∀ (s : Shared) (H : Hp) (C : Addr) (cl : List (Str × Addr)) (fp : List Addr), PG (X.blk s H scope (compEnvC scope cl C X.env) fp) tg1 (gName j1))
    (he : ∀ x ∈ xs, ∀ y ∈ ys, ∀ (s : Shared) (H : Hp) (C : Addr) (cl : List (Str × Addr)) (fp : List Addr), PE (X.blk s H scope (compEnvC scope cl C X.env) fp) elt (tCan X.K ((((wipeE es (own.map (·.2))).set j (.is (Dat X.K (enc x)))).set j1 .no).set j1 (.is (Dat X.K (enc1 y)))) (Dat X.K (f x y))))
    (hz : xs.length * ys.length ≤ 1000) (hs : ∀ x, foldedSetIterable iter X.env x = pure x := by intro _; rfl) (hs1 : ∀ env x, foldedSetIterable iter1 env x = pure x := by intro _ _; rfl) :
    PE X (.ListComp elt [⟨tg, iter, [], 0⟩, ⟨tg1, iter1, [], 0⟩] scope pos) (tCanL X.K es (· = xs.flatMap fun x => ys.map (f x))) := by
  refine pe_imp (pe_lc2 (vs1 := [j1]) (tt := tYes) (tt1 := tYes) (wi1 := fun σ H R => ∃ x, x ∈ xs ∧ tCanI X.K ((wipeE es (own.map (·.2))).set j (.is (Dat X.K (enc x)))) (ys.map enc1) σ H R)
    (te := fun σ H Q => ∃ p : ι × κ, (p.1 ∈ xs ∧ p.2 ∈ ys) ∧ tCan X.K ((((wipeE es (own.map (·.2))).set j (.is (Dat X.K (enc p.1)))).set j1 .no).set j1 (.is (Dat X.K (enc1 p.2)))) (Dat X.K (f p.1 p.2)) σ H Q)
    hc hN hi ok (fun i hi => by rw [List.mem_singleton.mp hi]; exact hj1) hg (fun _ _ _ _ _ => pts_nil) (fun s H C cl fp => ⟨fun pins s' σ H' R I ⟨x, hx, q⟩ => (hi1 x hx s H C cl fp).run pins s' σ H' R I q⟩) hg1 (fun _ _ _ _ _ => pts_nil)
    (fun s H C cl fp => ⟨fun pins s' σ H' Q I ⟨p, hp, q⟩ => (he p.1 hp.1 p.2 hp.2 s H C cl fp).run pins s' σ H' Q I q⟩) hs hs1) fun σ H Q ⟨F0, H0, F, S, k⟩ => ?_
  refine ⟨F0, H0, F, S, fun J F1 H1 g1 w D hD => ?_⟩
  have hlen : (xs.map enc).length = xs.length := List.length_map ..
  unfold WalkD at w
  rw [hlen] at w
  have lens : ∀ i, i ≤ xs.length → ((xs.take i).flatMap fun x => ys.map (f x)).length ≤ xs.length * ys.length := fun i hi => by
    have h1 : ∀ l : List ι, (l.flatMap fun x => ys.map (f x)).length = l.length * ys.length := by
      intro l
      induction l with
      | nil => simp
      | cons x l ih => rw [List.flatMap_cons, List.length_append, ih, List.length_map, List.length_cons, Nat.succ_mul, Nat.add_comm]
    rw [h1]
    exact Nat.mul_le_mul_right _ (by rw [List.length_take]; omega)
  refine walk_w1 (Nx := fun H => Q (.ref D) H) (Bd := fun Nx x H' => gName j x (L2.wipe σ (own.map (·.2))) H' fun σ2 H2 => L2.wipe σ2 (own.map (·.2)) = L2.wipe σ (own.map (·.2)) ∧ tYes σ2 H2 fun b H3 =>
    if b = true then (fun σ H R => ∃ x, x ∈ xs ∧ tCanI X.K ((wipeE es (own.map (·.2))).set j (.is (Dat X.K (enc x)))) (ys.map enc1) σ H R : TI) σ2 H3 fun J1 H4 => ∃ W1 : Nat → Nat → Hp → Prop, (∃ m, W1 0 m H4) ∧ ∀ j' k H, W1 j' k H →
      (J1.stop j' H ∧ Nx H) ∨ (J1.go j' H ∧ ∃ Nx1 : Hp → Prop, (∀ H', Nx1 H' → ∃ k', k' < k ∧ W1 (j' + 1) k' H') ∧ ∀ x H', J1.yld j' H x H' → gName j1 x (L2.wipe σ2 [j1]) H' fun σ3 H5 => L2.wipe σ3 [j1] = L2.wipe σ2 [j1] ∧ tYes σ3 H5 fun b H6 =>
        if b = true then (fun σ H Q => ∃ p : ι × κ, (p.1 ∈ xs ∧ p.2 ∈ ys) ∧ tCan X.K ((((wipeE es (own.map (·.2))).set j (.is (Dat X.K (enc p.1)))).set j1 .no).set j1 (.is (Dat X.K (enc1 p.2)))) (Dat X.K (f p.1 p.2)) σ H Q : TE) σ3 H6 fun y H7 => ∃ acc, H7 D = some (.lst acc) ∧ acc.length < sizeLine ∧ Nx1 (upd H7 D (.lst (acc ++ [y]))) else Nx1 H6)
    else Nx H3) w
    (fun i H' => ∃ F' vs, Grow F1 H1 F' H' ∧ F' D = none ∧ H' D = some (.lst vs) ∧ DpAll X.K F' vs ((xs.take i).flatMap fun x => ys.map (f x))) ?_ ?_ ?_ ?_
  · exact ⟨F1, [], Grow.newH g1.fh hD, g1.fh.free hD, upd_same, .nil⟩
  · rintro i H' _ ⟨F', vs, g2, _⟩
    exact g2.ff.trans g2.fh
  · rintro i x H2 H3 hi' ⟨F2, vs, g2, n2, hvs, a2⟩ y
    obtain ⟨F3, g3, d, hd, pd⟩ := y F2 g2.ff g2.fh
    have hx : xs[i]? = some xs[i] := List.getElem?_eq_getElem hi'
    rw [List.getElem?_map, hx] at hd
    cases hd
    have hxm : xs[i] ∈ xs := List.getElem_mem hi'
    have g13 := g2.trans g3
    have n3 : F3 D = none := g3.nw D n2 (by rw [hvs]; exact fun z => by cases z)
    have h3 : H3 D = some (.lst vs) := g3.hh _ _ hvs
    have et : xs.take (i + 1) = xs.take i ++ [xs[i]] := by rw [List.take_add_one, hx]; rfl
    have S3 : Sv X.K (wipeE es (own.map (·.2))) F0 H0 F3 H3 (L2.wipe σ (own.map (·.2))) := (S.grow (g1.trans g13)).wipe _
    have S3' := S3.set (i := j) (R := Dat X.K (enc xs[i])) pd
    refine ⟨?_, ?_⟩
    · rw [wipe_eq (σ := (L2.wipe σ (own.map (·.2))).set j (some x)) (τ := L2.wipe σ (own.map (·.2))) _ (by rw [List.length_set]) fun q hq => List.getElem?_set_ne fun z => hq (z ▸ hj), wipe_idem]
    · refine ⟨xs[i], hxm, F0, H0, F3, S3', fun J1 F4 H4 g4 w1 => ?_⟩
      have hlen1 : (ys.map enc1).length = ys.length := List.length_map ..
      unfold WalkD at w1
      rw [hlen1] at w1
      have n4 : F4 D = none := g4.nw D n3 (by rw [h3]; exact fun z => by cases z)
      have h4 : H4 D = some (.lst vs) := g4.hh _ _ h3
      refine walk_w1 (Bd := fun Nx1 x' H' => gName j1 x' (L2.wipe ((L2.wipe σ (own.map (·.2))).set j (some x)) [j1]) H' fun σ3 H5 => L2.wipe σ3 [j1] = L2.wipe ((L2.wipe σ (own.map (·.2))).set j (some x)) [j1] ∧ tYes σ3 H5 fun b H6 =>
        if b = true then (fun σ H Q => ∃ p : ι × κ, (p.1 ∈ xs ∧ p.2 ∈ ys) ∧ tCan X.K ((((wipeE es (own.map (·.2))).set j (.is (Dat X.K (enc p.1)))).set j1 .no).set j1 (.is (Dat X.K (enc1 p.2)))) (Dat X.K (f p.1 p.2)) σ H Q : TE) σ3 H6 fun y H7 => ∃ acc, H7 D = some (.lst acc) ∧ acc.length < sizeLine ∧ Nx1 (upd H7 D (.lst (acc ++ [y]))) else Nx1 H6) w1
        (fun i2 H' => ∃ F' vs, Same F4 F' ∧ Grow F1 H1 F' H' ∧ F' D = none ∧ H' D = some (.lst vs) ∧ DpAll X.K F' vs (((xs.take i).flatMap fun x => ys.map (f x)) ++ (ys.take i2).map (f xs[i]))) ?_ ?_ ?_ ?_
      · exact ⟨F4, vs, Same.refl _, g13.trans g4, n4, h4, by rw [List.take_zero, List.map_nil, List.append_nil]; exact dpAll_mono (g3.ff.trans g4.ff) _ _ a2⟩
      · rintro i2 H' _ ⟨F', vs', s', g', _⟩
        exact s'.trans g'.fh
      · rintro i2 x2 H5 H6 hi2 ⟨F5, vs5, s5, g5, n5, h5, a5⟩ y2
        obtain ⟨F6, g6, d6, hd6, pd6⟩ := y2 F5 s5 g5.fh
        have hy : ys[i2]? = some ys[i2] := List.getElem?_eq_getElem hi2
        rw [List.getElem?_map, hy] at hd6
        cases hd6
        have n6 : F6 D = none := g6.nw D n5 (by rw [h5]; exact fun z => by cases z)
        have h6 : H6 D = some (.lst vs5) := g6.hh _ _ h5
        have S6 : Sv X.K (wipeE es (own.map (·.2))) F0 H0 F6 H6 (L2.wipe σ (own.map (·.2))) := (S.grow (g1.trans (g5.trans g6))).wipe _
        have S7 := (S6.set (i := j) (R := Dat X.K (enc xs[i])) (v := x) (dp_mono ((g4.ff.trans s5).trans g6.ff) _ _ pd)).wipe [j1]
        have S8 := S7.set (i := j1) (R := Dat X.K (enc1 ys[i2])) (v := x2) pd6
        refine ⟨wipe_eq [j1] (by rw [List.length_set, wipe_length]) fun q hq => ?_, ?_⟩
        · rw [List.getElem?_set_ne fun z => hq (by rw [z]; exact List.mem_singleton_self _), wipe_out hq]
        · refine ⟨(xs[i], ys[i2]), ⟨hxm, List.getElem_mem hi2⟩, F0, H0, F6, S8, fun v F7 H7 g7 r7 => ?_⟩
          have n7 : F7 D = none := g7.nw D n6 (by rw [h6]; exact fun z => by cases z)
          have h7 : H7 D = some (.lst vs5) := g7.hh _ _ h6
          have hl := dpa_len a5
          have hl2 := lens i (Nat.le_of_lt hi')
          have hl3 : (xs.take i).length + 1 ≤ xs.length := by rw [List.length_take]; omega
          refine ⟨vs5, h7, ?_, F7, vs5 ++ [v], (s5.trans g6.ff).trans g7.ff, ((g5.trans g6).trans g7).mut hD n7, n7, upd_same, ?_⟩
          · rw [hl, List.length_append, List.length_map, List.length_take]
            have : ys.length ≤ xs.length * ys.length := Nat.le_mul_of_pos_left _ (by omega)
            exact Nat.lt_of_le_of_lt (show _ ≤ 2000 by omega) (by decide)
          · have ety : ys.take (i2 + 1) = ys.take i2 ++ [ys[i2]] := by rw [List.take_add_one, hy]; rfl
            rw [ety, List.map_append, ← List.append_assoc]
            exact dpa_app (dpAll_mono (g6.ff.trans g7.ff) _ _ a5) (.cons r7 .nil)
      · rintro H' ⟨F', vs', s', g', n', h', a'⟩
        refine ⟨F', vs', g', n', h', ?_⟩
        rw [List.take_length] at a'
        rw [et, List.flatMap_append]
        simpa using a'
  · rintro H' ⟨F', vs, g2, n2, hvs, a2⟩
    rw [List.take_length] at a2
    exact k D vs _ F' H' (g1.trans g2) rfl (g1.hh.free hD) n2 hvs a2
end Dl
/-! dicts whose keys are tuples of any depth: what is stored, told by the raw rows -/
namespace Nd
open PySem PySem.Spec PyProof.Rows L2 Dl
mutual
def nk : PyData → NestedKey
  | .bool b => .num (if b = true then 1 else 0)
  | .int i => .num i
  | .str x => .text x
  | .tuple ds => .tup (nks ds)
  | _ => .none
def nks : List PyData → List NestedKey
  | [] => []
  | d :: ds => nk d :: nks ds
end
mutual
def keyable : PyData → Bool
  | .list _ => false
  | .dict _ => false
  | .tuple ds => keyables ds
  | _ => true
def keyables : List PyData → Bool
  | [] => true
  | d :: ds => keyable d && keyables ds
end
mutual
theorem nested_of {h : Heap} : ∀ (d : PyData) (v : Value) (as : List Addr), Reads h v d as → keyable d = true → NestedIs h (nk d) v
  | .none, _, _, r, _ => by cases r; exact .none
  | .bool b, _, _, r, _ => by cases r; exact .bool rfl
  | .int i, _, _, r, _ => by cases r; exact .int _ _
  | .str x, _, _, r, _ => by cases r; exact .text _ _
  | .list _, _, _, _, k => by cases k
  | .dict _, _, _, _, k => by cases k
  | .tuple ds, _, _, r, k => by
    cases r with
    | tuple h1 h2 h3 h4 => exact .tup h1 h2 h3 (nesteds_of ds _ _ h4 k)
theorem nesteds_of {h : Heap} : ∀ (ds : List PyData) (vs : List Value) (as : List Addr), ReadsAll h vs ds as → keyables ds = true → NestedAll h (nks ds) vs
  | [], _, _, r, _ => by cases r; exact .nil
  | d :: ds, _, _, r, k => by
    have k' : keyable d = true ∧ keyables ds = true := by simpa [keyables] using k
    cases r with
    | cons r1 r2 => exact .cons (nested_of d _ _ r1 k'.1) (nesteds_of ds _ _ r2 k'.2)
end
mutual
theorem nk_depth : ∀ d : PyData, (nk d).depth ≤ d.depth
  | .none => Nat.zero_le _
  | .bool _ => Nat.zero_le _
  | .int _ => Nat.zero_le _
  | .str _ => Nat.zero_le _
  | .list _ => Nat.zero_le _
  | .dict _ => Nat.zero_le _
  | .tuple ds => by
    have := nks_depth ds
    simp only [nk, NestedKey.depth, PyData.depth]
    omega
theorem nks_depth : ∀ ds : List PyData, NestedKey.depthAll (nks ds) ≤ PyData.depthAll ds
  | [] => Nat.zero_le _
  | d :: ds => by
    have h1 := nk_depth d
    have h2 := nks_depth ds
    simp only [nks, NestedKey.depthAll, PyData.depthAll]
    omega
end
abbrev Rows := List (NestedKey × Addr × Value)
/-- the object at p is a dict of these rows -/
def Raw (P : Program) (w : World) (p : Addr) (xs : Rows) (h : Heap) : Prop :=
  ∃ o es ep, h.get? p = some o ∧ o.ExactDict ∧ o.data = .dict es ep ∧ es.toList = xs.map (entryOfKey (nestedKind P w)) ∧ (xs.map (·.1)).Nodup ∧ (p == sysModules) = false
def ndO (P : Program) (w : World) (p : Addr) (xs : Rows) : HO := .ext (Raw P w p xs)
/-- each key is data that stands -/
def Keys (K : PySem.W.Frag) (H : Hp) (xs : Rows) : Prop := ∀ x ∈ xs, ∃ d, Dp K H (.ref x.2.1) d ∧ keyable d = true ∧ nk d = x.1 ∧ d.depth ≤ 8
theorem ndO_ok {P : Program} {w : World} {H : Hp} {p : Addr} {xs : Rows} {h : Heap} (r : Raw P w p xs h) : ObjOk P w H h p (ndO P w p xs) :=
  ⟨r, let ⟨o, _, _, e, _⟩ := r; ⟨o, e⟩, fun h1 h2 ⟨o, es, ep, e, q⟩ k => ⟨o, es, ep, k o e, q⟩⟩
section
variable {X : Cx} {pins : List (Addr × Obj)} {σ : L2.St} {H : Hp} {s : Shared} {p : Addr} {xs : Rows}
theorem key_at (I : Inv X pins σ H s) {a : Addr} {d : PyData} (hd : Dp X.K H (.ref a) d) (hk : keyable d = true) (h8 : d.depth ≤ 8) : (nestedKind X.prog X.w).is s.heap (nk d) a := by
  obtain ⟨as, r⟩ := Dp.reads I d (.ref a) (.ref a) hd rfl
  exact ⟨nested_of d _ _ r hk, Nat.le_trans (nk_depth d) h8⟩
theorem dict_at (I : Inv X pins σ H s) (e : H p = some (ndO X.prog X.w p xs)) (k : Keys X.K H xs) : s.heap.DictOfH (nestedKind X.prog X.w) p xs ∧ (p == sysModules) = false := by
  obtain ⟨⟨o, es, ep, h1, h2, h3, h4, h5, h6⟩, _⟩ := (show ObjOk X.prog X.w H s.heap p (ndO X.prog X.w p xs) from I.hok p _ e)
  refine ⟨⟨o, es, ep, h1, h2, h3, h4, fun x hx => ?_, h5⟩, h6⟩
  obtain ⟨d, hd, hk, ek, h8⟩ := k x hx
  rw [← ek]
  exact key_at I hd hk h8
theorem raw_of {P : Program} {w : World} {h : Heap} (m : h.DictOfH (nestedKind P w) p xs) (hs : (p == sysModules) = false) : Raw P w p xs h :=
  let ⟨o, es, ep, h1, h2, h3, h4, _, h5⟩ := m
  ⟨o, es, ep, h1, h2, h3, h4, h5, hs⟩
/-- {} -/
def tNew (P : Program) (w : World) : TE := fun _ H Q => ∀ p, H p = none → Q (.ref p) (upd H p (ndO P w p []))
theorem pe_new {pos : Pos} : PE X (.Dict [] [] pos) (tNew X.prog X.w) := ⟨fun pins s σ H Q I h =>
  wpAny_Dict_empty ⟨.ref s.heap.objs.size, _, I.laid (a := s.heap.objs.size) (o := ndO X.prog X.w s.heap.objs.size []) (t' := s.toks) (fun _ _ q => Heap.get?_push_of_some _ q) (Nat.le_refl _)
    (ndO_ok ⟨_, #[], 0, Heap.get?_push_size _ rfl, ⟨rfl, rfl, rfl⟩, rfl, rfl, List.nodup_nil, beq_eq_false_iff_ne.mpr (Ne.symm (Nat.ne_of_lt I.big))⟩), rfl, h _ (I.hok.fresh (Nat.le_refl _))⟩⟩
/-- x in d -/
def rIn (P : Program) (w : World) (K : PySem.W.Frag) : R2 := fun x y H Q => ∃ (a p : Addr) (d : PyData) (xs : Rows), x = .ref a ∧ y = .ref p ∧ Dp K H (.ref a) d ∧ keyable d = true ∧ d.depth ≤ 8 ∧ H p = some (ndO P w p xs) ∧ Keys K H xs ∧ Q (.bl (atKey xs (nk d)).isSome) H
theorem op_in (hu : X.A.units + 9 < cLine) : OpR X (compareOp .In) (rIn X.prog X.w X.K) := by
  intro pins s σ H x y v u Q I rx ry h
  obtain ⟨a, p, d, xs, rfl, rfl, hd, hk, h8, e, ks, q⟩ := h
  cases rx
  cases ry
  obtain ⟨m, hs⟩ := dict_at I e ks
  exact wpAny_in_heap (knd := nestedKind X.prog X.w) (by show X.A.in1.units + 8 < cLine; show X.A.units + 1 + 8 < cLine; omega) (key_at I hd hk h8) hs m ⟨.bl _, H, I.tok _, rfl, q⟩
/-- len(d) -/
def rLen (P : Program) (w : World) (K : PySem.W.Frag) : List V → Hp → VK → Prop := fun vs H Q => ∃ (p : Addr) (xs : Rows), vs = [.ref p] ∧ H p = some (ndO P w p xs) ∧ Keys K H xs ∧ xs.length ≤ 1000 ∧ Q (.int (xs.length : Nat)) H
/-- d.get(k, x) -/
theorem get_nd (hu : X.A.units + 9 < cLine) (I : Inv X pins σ H s) {a : Addr} {d : PyData} {r : Value} {Q : Value → Shared → Prop} (hd : Dp X.K H (.ref a) d) (hk : keyable d = true) (h8 : d.depth ≤ 8) (e : H p = some (ndO X.prog X.w p xs)) (ks : Keys X.K H xs)
    (h : ∀ s', Inv X pins σ H s' → Q (((atKey xs (nk d)).map (·.2)).getD r) s') {E : Value → Shared → Prop} : wpAny (model X.prog X.w) X.A (call (.builtin "dict.get") [.ref p, .ref a, r]) Q E s := by
  obtain ⟨m, hs⟩ := dict_at I e ks
  exact call_meetsIn F.slot_dict_get m.typeIs F.entry_dict_get (F.args_dict_get_3 _ _ _) (meetsH_dict_get_default (nestedKind X.prog X.w) p a hs r) ⟨by show X.A.units + 1 + 8 < cLine; omega, nk d, xs, key_at I hd hk h8, m, h _ (I.tok _)⟩
def tGet (P : Program) (w : World) (K : PySem.W.Frag) (td ty tx : TE) : TE := fun σ H Q => td σ H fun x H1 => ∃ p, x = .ref p ∧ (∃ xs, H1 p = some (ndO P w p xs)) ∧ ty σ H1 fun y H2 => tx σ H2 fun z H3 =>
  ∃ (a : Addr) (d : PyData) (xs : Rows) (g : NestedKey × Addr × Value → V), y = .ref a ∧ Dp K H3 (.ref a) d ∧ keyable d = true ∧ d.depth ≤ 8 ∧ H3 p = some (ndO P w p xs) ∧ Keys K H3 xs ∧ (∀ x ∈ xs, RelV (g x) x.2.2) ∧ (Q z H3 ∧ ∀ x ∈ xs, Q (g x) H3)
end
theorem atKey_mem {K : Type} [DecidableEq K] {xs : List (K × Addr × Value)} {k : K} {q : Addr × Value} (h : atKey xs k = some q) : ∃ x ∈ xs, x.1 = k ∧ x.2 = q := by
  unfold atKey at h
  obtain ⟨x, hx, e⟩ := Option.map_eq_some_iff.mp h
  exact ⟨x, List.mem_of_find?_eq_some hx, by simpa using List.find?_some hx, e⟩
end Nd
/-! dicts of nested keys: stores, get, the comprehension {k: v for x in ..} -/
namespace Nd
open PySem PySem.Spec PyProof.Rows L2 Dl
section
variable {X : Cx}
def sPut (P : Program) (w : World) (K : PySem.W.Frag) : TSet := fun o i v H Q => ∃ (p a : Addr) (d : PyData) (xs : Rows), o = .ref p ∧ i = .ref a ∧ Dp K H (.ref a) d ∧ keyable d = true ∧ d.depth ≤ 8 ∧ H p = some (ndO P w p xs) ∧ Keys K H xs ∧ xs.length ≤ 100000 ∧
  ∀ u, RelV v u → Q (upd H p (ndO P w p (storedH xs (nk d) a u)))
theorem set_nd (hu : X.A.units + 9 < cLine) : PSet X (sPut X.prog X.w X.K) := by
  intro pins s σ H o i v ov iv u Q I ro ri rv h
  obtain ⟨p, a, d, xs, rfl, rfl, hd, hk, h8, e, ks, hz, q⟩ := h
  cases ro
  cases ri
  obtain ⟨m, hs⟩ := dict_at I e ks
  refine wpAny_setItem_heap (knd := nestedKind X.prog X.w) (hsz := Nat.le_trans hz (by decide)) (by show X.A.units + 1 + 8 < cLine; omega) (key_at I hd hk h8) m fun h' m' sb => ?_
  exact ⟨_, d_write I (by rw [e]; exact True.intro) sb (let ⟨o, _, _, h1, _⟩ := m'; ⟨o, h1⟩) (ndO_ok (raw_of m' hs)), q u rv⟩
/-- the same, as a comprehension stores -/
theorem dset_nd {pins : List (Addr × Obj)} {σ : L2.St} {H : Hp} {s : Shared} {E : Value → Shared → Prop} {p : Addr} {y v : V} {u r : Value} {N : Hp → Prop} {Q : Unit → Shared → Prop} (hu : X.A.units + 9 < cLine) (I : Inv X pins σ H s) (ry : RelV y u) (rv : RelV v r) (h : sPut X.prog X.w X.K (.ref p) y v H N)
    (k : ∀ H' s', Inv X pins σ H' s' → N H' → Q () s') : wpAny (model X.prog X.w) X.A (dictSet p u r) Q E s := by
  obtain ⟨p', a, d, xs, e1, rfl, hd, hk, h8, e, ks, hz, q⟩ := h
  cases e1
  cases ry
  obtain ⟨m, hs⟩ := dict_at I e ks
  refine wpAny_dictSet_heap (knd := nestedKind X.prog X.w) (hsz := Nat.le_trans hz (by decide)) (by show X.A.units + 8 < cLine; omega) (key_at I hd hk h8) m fun h' m' sb => ?_
  exact k _ _ (d_write I (by rw [e]; exact True.intro) sb (let ⟨o, _, _, h1, _⟩ := m'; ⟨o, h1⟩) (ndO_ok (raw_of m' hs))) (q r rv)
/-- d.get(k, x) -/
theorem pe_get {o e f : Expr} {apos cpos : Pos} {td ty tx : TE} (hu : X.A.units + 9 < cLine) (ho : PE X o td) (he : PE X e ty) (hf : PE X f tx) (m : M2 X o "get" apos e f cpos) : PE X (.Call (.Attribute o "get" apos) [e, f] [] cpos) (tGet X.prog X.w X.K td ty tx) := by
  refine ⟨fun pins s σ H Q I h => ?_⟩
  refine wpAny_Call_method m.base m.few m.line PySem.F.plainAttrs_dict PySem.F.slot_dict_get PySem.F.type_dict_get (thn (ho.run pins s σ H _ I h) fun u s1 ⟨x, H1, I1, rx, p, ex, ⟨xs0, hp0⟩, q1⟩ => ?_)
  subst ex
  obtain rfl : u = Value.ref p := rx
  obtain ⟨⟨ob, es, ep, h1, h2, h3, _⟩, _⟩ := (show ObjOk X.prog X.w H1 s1.heap p (ndO X.prog X.w p xs0) from I1.hok p _ hp0)
  refine ⟨⟨ob, h1, h2.1⟩, fun b z => by cases z; exact ⟨ob, h1, h2.2.1⟩, ?_⟩
  rw [m.trees]
  refine Calls.callWith_builtin rfl (Calls.evalArgs_plain (Calls.spliced_cons (thn (he.run pins s1 σ H1 _ I1 q1) fun iv s2 ⟨y, H2, I2, ry, q2⟩ =>
    Calls.spliced_cons (thn (hf.run pins s2 σ H2 _ I2 q2) fun fv s3 ⟨z, H3, I3, rz, a, d, xs, g, ey, hd, hk, h8, e3, ks, hg, qz, qg⟩ => Calls.spliced_nil ?_))))
  subst ey
  cases ry
  refine get_nd hu I3 hd hk h8 e3 ks fun s4 I4 => ?_
  cases hat : atKey xs (nk d) with
  | none => exact ⟨z, H3, I4, rz, qz⟩
  | some q =>
    obtain ⟨x, hx, _, e2⟩ := atKey_mem hat
    refine ⟨g x, H3, I4, ?_, qg x hx⟩
    show RelV (g x) q.2
    rw [← e2]
    exact hg x hx
/-- {k: v for target in iter} -/
def tDcN (P : Program) (w : World) (K : PySem.W.Frag) (wi : TI) (g : TG) (tk tv : TE) (vs : List Nat) : TE := fun σ H Q => wi σ H fun J H1 => ∀ D, H1 D = none → ∃ W : Nat → Nat → Hp → Prop, (∃ m, W 0 m (upd H1 D (ndO P w D []))) ∧ ∀ i m H, W i m H →
  (J.stop i H ∧ Q (.ref D) H) ∨ (J.go i H ∧ ∃ Nx : Hp → Prop, (∀ H', Nx H' → ∃ m', m' < m ∧ W (i + 1) m' H') ∧ ∀ x H', J.yld i H x H' → g x (wipe σ vs) H' fun σ2 H2 => wipe σ2 vs = wipe σ vs ∧
    tk σ2 H2 fun y H3 => tv σ2 H3 fun z H4 => sPut P w K (.ref D) y z H4 Nx)
theorem pe_dcN {kx vx tg iter : Expr} {scope : Scope} {own : List (Str × Nat)} {pos : Pos} {wi : TI} {g : TG} {tk tv : TE} (hu : X.A.units + 9 < cLine) (hc : X.calm = true) (hN : X.N.Nodup) (hi : PI X tg iter wi) (ok : BlkOk X.N X.env.scope scope own)
    (hg : ∀ (s : Shared) (H : Hp) (C : Addr) (cl : List (Str × Addr)) (fp : List Addr), PG (X.blk s H scope (compEnvC scope cl C X.env) fp) tg g)
    (hk : ∀ (s : Shared) (H : Hp) (C : Addr) (cl : List (Str × Addr)) (fp : List Addr), PE (X.blk s H scope (compEnvC scope cl C X.env) fp) kx tk)
    (he : ∀ (s : Shared) (H : Hp) (C : Addr) (cl : List (Str × Addr)) (fp : List Addr), PE (X.blk s H scope (compEnvC scope cl C X.env) fp) vx tv) (hs : ∀ x, foldedSetIterable iter X.env x = pure x := by intro _; rfl) :
    PE X (.DictComp kx vx [⟨tg, iter, [], 0⟩] scope pos) (tDcN X.prog X.w X.K wi g tk tv (own.map (·.2))) := by
  refine ⟨fun pins s σ H Q I h => ?_⟩
  rw [arm_eval_DictComp]
  have caps : ∀ y ∈ scope.names, y.2 = .free → ∃ c, X.env.cells.lookup y.1 = some c := fun y hy e =>
    (ok.free y hy e).elim (fun k => I.ok.has _ (.inl k)) fun k => I.ok.has _ (.inr k)
  refine wpAny_comprehension_free rfl hs (closure_ok caps) ok.kind (fun y hy e => by rw [ok.uniq y hy, e]) (thn (hi.run pins s σ H _ I h) fun xv s1 hx => thn hx fun itv s2 h2 => ?_)
  obtain ⟨it, fp, tn, J, Ha, e, Ia, T, sta, fa, q⟩ := h2
  subst e
  refine wpAny_newObj_type (newEnv_comp ?_)
  generalize hD : s2.heap.objs.size = D
  obtain ⟨W, ⟨m0, w0⟩, turn⟩ := q D (Ia.hok.fresh (Nat.le_of_eq hD))
  generalize hsb : ({ s2 with heap := s2.heap.push { cls := .type "dict", data := .dict #[] } } : Shared) = sb
  have hb : sb.heap = s2.heap.push { cls := .type "dict", data := .dict #[] } := by rw [← hsb]
  have Ib : Inv X pins σ (upd Ha D (ndO X.prog X.w D [])) sb := by
    rw [← hsb, ← hD]
    exact Ia.laid (t' := s2.toks) (fun b o e => Heap.get?_push_of_some _ e) (Nat.le_refl _) (ndO_ok ⟨_, #[], 0, Heap.get?_push_size _ rfl, ⟨rfl, rfl, rfl⟩, rfl, rfl, List.nodup_nil, beq_eq_false_iff_ne.mpr (Ne.symm (Nat.ne_of_lt Ia.big))⟩)
  have fb : ∀ b ∈ fp, FpOk X pins (upd Ha D (ndO X.prog X.w D [])) b ∧ b < sb.heap.objs.size := fun b hbm => by
    obtain ⟨o, e, _⟩ := T.obj _ _ sta b hbm
    have lt := Heap.lt_size e
    refine ⟨⟨?_, (fa b hbm).2⟩, by rw [hb, Heap.size_push]; exact Nat.lt_succ_of_lt lt⟩
    rw [upd_ne (by rw [← hD]; exact Nat.ne_of_lt lt)]
    exact (fa b hbm).1
  have stb : tn 0 sb.heap := T.keep _ _ _ sta fun b _ o e => by rw [hb]; exact Heap.get?_push_of_some _ e
  have Ic := block_start Ib ok hN fb
  have pg := hg sb (upd Ha D (ndO X.prog X.w D [])) sb.heap.objs.size (cellsFrom (sb.heap.objs.size + 1) scope.names (cloFrom X.env.cells scope.names [])) fp
  have pk := hk sb (upd Ha D (ndO X.prog X.w D [])) sb.heap.objs.size (cellsFrom (sb.heap.objs.size + 1) scope.names (cloFrom X.env.cells scope.names [])) fp
  have pe := he sb (upd Ha D (ndO X.prog X.w D [])) sb.heap.objs.size (cellsFrom (sb.heap.objs.size + 1) scope.names (cloFrom X.env.cells scope.names [])) fp
  have free : ∀ b ∈ fp, (upd Ha D (ndO X.prog X.w D [])) b = none := fun b hbm => (fb b hbm).1.1
  show codeAny _ _ (.compStart (.DictComp kx vx [⟨tg, iter, [], 0⟩] scope pos) 0 (.ref it) (.ref D) (compEnvC scope (cellsFrom (sb.heap.objs.size + 1) scope.names (cloFrom X.env.cells scope.names [])) sb.heap.objs.size X.env)) (compPost (model X.prog X.w) X.A X.xe none (EP X pins σ Q) (.ref D) sb.heap.objs.size) { sb with heap := pushCells (sb.heap.push { cls := .type "dict", data := .dict #[] }) scope.names }
  generalize hce : compEnvC scope (cellsFrom (sb.heap.objs.size + 1) scope.names (cloFrom X.env.cells scope.names [])) sb.heap.objs.size X.env = ce at Ic pg pk pe ⊢
  have cL : ce.locals = sb.heap.objs.size := by subst hce; rfl
  generalize hHb : upd Ha D (ndO X.prog X.w D []) = Hb at Ib Ic pg pk pe w0 free fb
  generalize hsc : ({ sb with heap := pushCells (sb.heap.push { cls := .type "dict", data := .dict #[] }) scope.names } : Shared) = sc at Ic ⊢
  have stc : tn 0 sc.heap := T.keep _ _ _ stb fun b _ o e => by rw [← hsc]; exact pushCells_keeps _ _ _ _ (Heap.get?_push_of_some _ e)
  have still : ∀ {σ' : L2.St} {H' : Hp} {s' : Shared}, Inv (X.blk sb Hb scope ce fp) [] σ' H' s' → (∀ b ∈ fp, H' b = none) → ∀ b ∈ fp, FpOk (X.blk sb Hb scope ce fp) [] H' b := fun {σ' H' s'} I' hn b hbm =>
    ⟨hn b hbm, (I'.ok.exf b hbm).1, I'.ok.exfs b hbm, .inl hbm, fun x c e => (I'.ok.exf b hbm).2 x c e, fun z hz => absurd (show z ∈ ([] : List (Addr × Obj)) ++ [] from hz) (by simp)⟩
  refine codeAny_compStart_dict ?_ (T.self X.A 0 _ _ _ stc ?_)
  all_goals
    refine compLoop_anyD (fun n s' => ∃ i H', Inv (X.blk sb Hb scope ce fp) [] (wipe σ (own.map (·.2))) H' s' ∧ tn i s'.heap ∧ (∀ b ∈ fp, H' b = none) ∧ W i n H') ?_ m0 ⟨0, Hb, Ic, stc, free, w0⟩
    rintro n s5 ⟨i, H5, I5, st5, n5, w5⟩
    rcases turn i n H5 w5 with ⟨stop, qq⟩ | ⟨go, Nx, hNx, step⟩
    · refine thnF (T.done (X.blk sb Hb scope ce fp) rfl rfl rfl hc i [] s5 _ H5 (fun _ _ => False) I5 (still I5 n5) st5 stop) fun r s6 ⟨hr, I6⟩ => ?_
      subst hr
      have I7 : Inv X pins σ H5 s6 := Ib.call' (ch := fp) I6.os I6.base I6.hok I6.bare fun b hbm => ⟨(fb b hbm).1.2.2.2.1, (fb b hbm).1.2.1, (fb b hbm).1.2.2.2.2.1, (fb b hbm).1.2.2.2.2.2⟩
      have nC : H5 sb.heap.objs.size = none := by
        have z : H5 ce.locals = none := I6.free
        rwa [cL] at z
      obtain ⟨m, hn, _⟩ := I6.loc
      have hn : s6.heap.Ns ce.locals m := hn
      rw [cL] at hn
      obtain ⟨f0, f1, f2, f3, f4, f5⟩ := Ib.fpOk (Nat.le_refl _) nC
      exact ⟨m, hn, fun h'' sbut => ⟨.ref D, H5, I7.turned (t' := s6.toks) (fun b o hbn e => (sbut.2 b hbn).trans e) f0 f1 f3 f4 f5, rfl, qq⟩⟩
    · refine thnF (T.item (X.blk sb Hb scope ce fp) rfl rfl rfl hc i [] s5 _ H5 (fun _ _ => False) I5 (still I5 n5) st5 go) fun r s6 ⟨u, hr, h6⟩ => ?_
      subst hr
      refine thnF h6 fun _ s7 ⟨x, H7, I7, r7, y7, st7, n7⟩ => ?_
      have Ip := I7.pinned (still I7 n7) (T.obj _ _ st7)
      refine thnF (pg.run _ s7 _ H7 x u _ Ip r7 (step x H7 y7)) fun _ s8 ⟨σ8, H8, I8, hw8, q8⟩ => ?_
      refine wpAny_tests_nil ?_
      simp only [if_true]
      refine thnF (pk.run _ s8 σ8 H8 _ I8 q8) fun z s10 ⟨yk, H10, I10, r10, q10⟩ => ?_
      refine thnF (pe.run _ s10 σ8 H10 _ I10 q10) fun z2 s11 ⟨yv, H11, I11, r11, q11⟩ => ?_
      refine dset_nd (X := X.blk sb Hb scope ce fp) hu I11 r10 r11 q11 fun H' s12 I' nx => ?_
      obtain ⟨m', hm, w'⟩ := hNx H' nx
      have pin' : ∀ b ∈ fp, ∀ o, s7.heap.get? b = some o → s12.heap.get? b = some o ∧ H' b = none := fun b hbm o e =>
        let z := I'.pin (b, o) (List.mem_append_right _ (List.mem_append_right _ (mem_pinsAt hbm e)))
        ⟨z.1, z.2.1⟩
      have hl : (wipe σ (own.map (·.2))).length = σ8.length := by rw [← hw8, wipe_length]
      refine ⟨m', hm, i + 1, H', (I'.unpinned (pins := [])).weak hl (fun j v e => ?_), T.keep _ _ _ st7 fun b hbm o e => (pin' b hbm o e).1, fun b hbm => ?_, w'⟩
      · rw [← hw8] at e
        exact (wipe_some e).1
      · obtain ⟨o, e, _⟩ := T.obj _ _ st7 b hbm
        exact (pin' b hbm o e).2
end
end Nd
/-! the defs of the row, their slots -/
namespace Sr
open PySem PySem.Spec PyProof.Rows L2
abbrev prog : Program := PySem.Challenge.pw_shadebarriers_k70_whole_small_heaps_sear
def topS (i : Nat) : Stmt := prog.main.body.getD i (.Pass ⟨0, 0, 0, 0⟩)
abbrev s_check_word : Stmt := topS 11
abbrev N_check_word : List Str := ["word"]
abbrev P_check_word : List Str := ["word"]
theorem S_check_word : FnScope N_check_word P_check_word (defScope s_check_word) := ⟨rfl, rfl, rfl, by decide +kernel, rfl, by decide +kernel, by decide +kernel⟩
abbrev s_ways_to_break : Stmt := topS 36
abbrev N_ways_to_break : List Str := ["rescans", "word"]
abbrev P_ways_to_break : List Str := ["rescans", "word"]
theorem S_ways_to_break : FnScope N_ways_to_break P_ways_to_break (defScope s_ways_to_break) := ⟨rfl, rfl, rfl, by decide +kernel, rfl, by decide +kernel, by decide +kernel⟩
abbrev s_marks_into_black : Stmt := topS 37
abbrev N_marks_into_black : List Str := ["state", "old", "who"]
abbrev P_marks_into_black : List Str := ["state", "old"]
theorem S_marks_into_black : FnScope N_marks_into_black P_marks_into_black (defScope s_marks_into_black) := ⟨rfl, rfl, rfl, by decide +kernel, rfl, by decide +kernel, by decide +kernel⟩
abbrev s_cuts : Stmt := topS 38
abbrev N_cuts : List Str := ["holder", "state", "new"]
abbrev P_cuts : List Str := ["holder"]
theorem S_cuts : FnScope N_cuts P_cuts (defScope s_cuts) := ⟨rfl, rfl, rfl, by decide +kernel, rfl, by decide +kernel, by decide +kernel⟩
abbrev s_marks_that_close : Stmt := topS 39
abbrev N_marks_that_close : List Str := ["gap", "state", "mark", "old"]
abbrev P_marks_that_close : List Str := ["gap"]
theorem S_marks_that_close : FnScope N_marks_that_close P_marks_that_close (defScope s_marks_that_close) := ⟨rfl, rfl, rfl, by decide +kernel, rfl, by decide +kernel, by decide +kernel⟩
abbrev s_known_marks : Stmt := topS 40
abbrev N_known_marks : List Str := ["table", "mark"]
abbrev P_known_marks : List Str := ["table"]
theorem S_known_marks : FnScope N_known_marks P_known_marks (defScope s_known_marks) := ⟨rfl, rfl, rfl, by decide +kernel, rfl, by decide +kernel, by decide +kernel⟩
abbrev s_open_marks : Stmt := topS 41
abbrev N_open_marks : List Str := ["known", "gap", "some", "mark"]
abbrev P_open_marks : List Str := ["known", "gap"]
theorem S_open_marks : FnScope N_open_marks P_open_marks (defScope s_open_marks) := ⟨rfl, rfl, rfl, by decide +kernel, rfl, by decide +kernel, by decide +kernel⟩
abbrev s_gaps_of : Stmt := topS 42
abbrev N_gaps_of : List Str := ["table", "known", "gap"]
abbrev P_gaps_of : List Str := ["table"]
theorem S_gaps_of : FnScope N_gaps_of P_gaps_of (defScope s_gaps_of) := ⟨rfl, rfl, rfl, by decide +kernel, rfl, by decide +kernel, by decide +kernel⟩
abbrev s_breaks : Stmt := topS 43
abbrev N_breaks : List Str := ["gaps", "rescans", "word", "gap", "needed", "count"]
abbrev P_breaks : List Str := ["gaps", "rescans", "word"]
theorem S_breaks : FnScope N_breaks P_breaks (defScope s_breaks) := ⟨rfl, rfl, rfl, by decide +kernel, rfl, by decide +kernel, by decide +kernel⟩
abbrev s_holds : Stmt := topS 44
abbrev N_holds : List Str := ["table", "word"]
abbrev P_holds : List Str := ["table", "word"]
theorem S_holds : FnScope N_holds P_holds (defScope s_holds) := ⟨rfl, rfl, rfl, by decide +kernel, rfl, by decide +kernel, by decide +kernel⟩
abbrev s_cut_entry : Stmt := topS 45
abbrev N_cut_entry : List Str := ["known", "gap", "some", "easy", "marks", "entry"]
abbrev P_cut_entry : List Str := ["known", "gap"]
theorem S_cut_entry : FnScope N_cut_entry P_cut_entry (defScope s_cut_entry) := ⟨rfl, rfl, rfl, by decide +kernel, rfl, by decide +kernel, by decide +kernel⟩
abbrev s_steps_of_way : Stmt := topS 46
abbrev N_steps_of_way : List Str := ["known", "needed", "count"]
abbrev P_steps_of_way : List Str := ["known", "needed", "count"]
theorem S_steps_of_way : FnScope N_steps_of_way P_steps_of_way (defScope s_steps_of_way) := ⟨rfl, rfl, rfl, by decide +kernel, rfl, by decide +kernel, by decide +kernel⟩
abbrev s_shortest_way : Stmt := topS 47
abbrev N_shortest_way : List Str := ["table", "word", "gaps", "known", "found", "needed", "count", "many", "gap"]
abbrev P_shortest_way : List Str := ["table", "word"]
theorem S_shortest_way : FnScope N_shortest_way P_shortest_way (defScope s_shortest_way) := ⟨rfl, rfl, rfl, by decide +kernel, rfl, by decide +kernel, by decide +kernel⟩
abbrev s_fewest_steps : Stmt := topS 48
abbrev N_fewest_steps : List Str := ["table", "word", "found"]
abbrev P_fewest_steps : List Str := ["table", "word"]
theorem S_fewest_steps : FnScope N_fewest_steps P_fewest_steps (defScope s_fewest_steps) := ⟨rfl, rfl, rfl, by decide +kernel, rfl, by decide +kernel, by decide +kernel⟩
abbrev s_l_pot : Stmt := topS 50
abbrev N_l_pot : List Str := ["_law_script", "_law_k", "_law_cell", "_law_own"]
abbrev P_l_pot : List Str := ["_law_script", "_law_k"]
theorem S_l_pot : FnScope N_l_pot P_l_pot (defScope s_l_pot) := ⟨rfl, rfl, rfl, by decide +kernel, rfl, by decide +kernel, by decide +kernel⟩
abbrev s_l_take : Stmt := topS 51
abbrev N_l_take : List Str := ["_law_pot_here", "_law_many", "_law_digit", "_law_prime", "_law_mixed"]
abbrev P_l_take : List Str := ["_law_pot_here", "_law_many"]
theorem S_l_take : FnScope N_l_take P_l_take (defScope s_l_take) := ⟨rfl, rfl, rfl, by decide +kernel, rfl, by decide +kernel, by decide +kernel⟩
abbrev s_l_of : Stmt := topS 52
abbrev N_l_of : List Str := ["_law_pot_here", "_law_some"]
abbrev P_l_of : List Str := ["_law_pot_here", "_law_some"]
theorem S_l_of : FnScope N_l_of P_l_of (defScope s_l_of) := ⟨rfl, rfl, rfl, by decide +kernel, rfl, by decide +kernel, by decide +kernel⟩
abbrev s_l_marks : Stmt := topS 53
abbrev N_l_marks : List Str := ["_law_found", "_law_thread", "_law_holder", "_law_old", "_law_new", "_law_some", "_law_colour", "_law_who"]
abbrev P_l_marks : List Str := []
theorem S_l_marks : FnScope N_l_marks P_l_marks (defScope s_l_marks) := ⟨rfl, rfl, rfl, by decide +kernel, rfl, by decide +kernel, by decide +kernel⟩
abbrev s_l_groups : Stmt := topS 54
abbrev N_l_groups : List Str := ["_law_found", "_law_colour", "_law_thread", "_law_old", "_law_holder", "_law_some", "_law_new", "_law_who"]
abbrev P_l_groups : List Str := []
theorem S_l_groups : FnScope N_l_groups P_l_groups (defScope s_l_groups) := ⟨rfl, rfl, rfl, by decide +kernel, rfl, by decide +kernel, by decide +kernel⟩
abbrev s_l_table : Stmt := topS 55
abbrev N_l_table : List Str := ["_law_pot_here", "_law_groups_here", "_law_marks_here", "_law_rough", "_law_name", "_law_some", "_law_every", "_law_turn"]
abbrev P_l_table : List Str := ["_law_pot_here"]
theorem S_l_table : FnScope N_l_table P_l_table (defScope s_l_table) := ⟨rfl, rfl, rfl, by decide +kernel, rfl, by decide +kernel, by decide +kernel⟩
abbrev s_l_ended : Stmt := topS 56
abbrev N_l_ended : List Str := ["_law_rescans", "_law_state", "_law_some", "_law_one"]
abbrev P_l_ended : List Str := ["_law_rescans", "_law_state"]
theorem S_l_ended : FnScope N_l_ended P_l_ended (defScope s_l_ended) := ⟨rfl, rfl, rfl, by decide +kernel, rfl, by decide +kernel, by decide +kernel⟩
abbrev s_l_reached : Stmt := topS 57
abbrev N_l_reached : List Str := ["_law_slots", "_law_held", "_law_found", "_law_some", "_law_turn", "_law_more", "_law_number", "_law_one"]
abbrev P_l_reached : List Str := ["_law_slots", "_law_held"]
theorem S_l_reached : FnScope N_l_reached P_l_reached (defScope s_l_reached) := ⟨rfl, rfl, rfl, by decide +kernel, rfl, by decide +kernel, by decide +kernel⟩
abbrev s_l_covered : Stmt := topS 58
abbrev N_l_covered : List Str := ["_law_state", "_law_found", "_law_turn", "_law_number", "_law_row", "_law_some", "_law_one"]
abbrev P_l_covered : List Str := ["_law_state"]
theorem S_l_covered : FnScope N_l_covered P_l_covered (defScope s_l_covered) := ⟨rfl, rfl, rfl, by decide +kernel, rfl, by decide +kernel, by decide +kernel⟩
abbrev s_l_has : Stmt := topS 59
abbrev N_l_has : List Str := ["_law_rescans", "_law_state", "_law_word", "_law_width", "_law_slots", "_law_colours", "_law_held", "_law_scanned", "_law_some", "_law_kept", "_law_number", "_law_row", "_law_mine", "_law_is_scanned", "_law_one"]
abbrev P_l_has : List Str := ["_law_rescans", "_law_state", "_law_word"]
theorem S_l_has : FnScope N_l_has P_l_has (defScope s_l_has) := ⟨rfl, rfl, rfl, by decide +kernel, rfl, by decide +kernel, by decide +kernel⟩
abbrev s_l_with : Stmt := topS 60
abbrev N_l_with : List Str := ["_law_row", "_law_at", "_law_thing"]
abbrev P_l_with : List Str := ["_law_row", "_law_at", "_law_thing"]
theorem S_l_with : FnScope N_l_with P_l_with (defScope s_l_with) := ⟨rfl, rfl, rfl, by decide +kernel, rfl, by decide +kernel, by decide +kernel⟩
abbrev s_l_kind : Stmt := topS 61
abbrev N_l_kind : List Str := ["_law_state", "_law_thread"]
abbrev P_l_kind : List Str := ["_law_state", "_law_thread"]
theorem S_l_kind : FnScope N_l_kind P_l_kind (defScope s_l_kind) := ⟨rfl, rfl, rfl, by decide +kernel, rfl, by decide +kernel, by decide +kernel⟩
abbrev s_l_load : Stmt := topS 62
abbrev N_l_load : List Str := ["_law_table_here", "_law_state", "_law_step", "_law_width", "_law_slots", "_law_colours", "_law_held", "_law_scanned", "_law_word", "_law_thread", "_law_holder", "_law_slot", "_law_found"]
abbrev P_l_load : List Str := ["_law_table_here", "_law_state", "_law_step"]
theorem S_l_load : FnScope N_l_load P_l_load (defScope s_l_load) := ⟨rfl, rfl, rfl, by decide +kernel, rfl, by decide +kernel, by decide +kernel⟩
abbrev s_l_store : Stmt := topS 63
abbrev N_l_store : List Str := ["_law_table_here", "_law_state", "_law_step", "_law_width", "_law_slots", "_law_colours", "_law_held", "_law_scanned", "_law_word", "_law_thread", "_law_holder", "_law_slot", "_law_value", "_law_old", "_law_later_here", "_law_kinds", "_law_who", "_law_number", "_law_one"]
abbrev P_l_store : List Str := ["_law_table_here", "_law_state", "_law_step"]
theorem S_l_store : FnScope N_l_store P_l_store (defScope s_l_store) := ⟨rfl, rfl, rfl, by decide +kernel, rfl, by decide +kernel, by decide +kernel⟩
abbrev s_l_own_after : Stmt := topS 64
abbrev N_l_own_after : List Str := ["_law_table_here", "_law_state", "_law_step", "_law_width", "_law_slots", "_law_colours", "_law_held", "_law_scanned", "_law_kept", "_law_colour", "_law_some", "_law_number", "_law_one"]
abbrev P_l_own_after : List Str := ["_law_table_here", "_law_state", "_law_step"]
theorem S_l_own_after : FnScope N_l_own_after P_l_own_after (defScope s_l_own_after) := ⟨rfl, rfl, rfl, by decide +kernel, rfl, by decide +kernel, by decide +kernel⟩
abbrev s_l_choices : Stmt := topS 65
abbrev N_l_choices : List Str := ["_law_table_here", "_law_state", "_law_width", "_law_slots", "_law_colours", "_law_held", "_law_scanned", "_law_drops", "_law_loads", "_law_stores", "_law_thread", "_law_some", "_law_holder", "_law_slot", "_law_found", "_law_number", "_law_value", "_law_colour"]
abbrev P_l_choices : List Str := ["_law_table_here", "_law_state"]
theorem S_l_choices : FnScope N_l_choices P_l_choices (defScope s_l_choices) := ⟨rfl, rfl, rfl, by decide +kernel, rfl, by decide +kernel, by decide +kernel⟩
abbrev s_l_start : Stmt := topS 66
abbrev N_l_start : List Str := ["_law_heap"]
abbrev P_l_start : List Str := ["_law_heap"]
theorem S_l_start : FnScope N_l_start P_l_start (defScope s_l_start) := ⟨rfl, rfl, rfl, by decide +kernel, rfl, by decide +kernel, by decide +kernel⟩
abbrev s_l_any_table : Stmt := topS 67
abbrev N_l_any_table : List Str := ["_law_pot_here", "_law_way", "_law_every", "_law_mark"]
abbrev P_l_any_table : List Str := ["_law_pot_here"]
theorem S_l_any_table : FnScope N_l_any_table P_l_any_table (defScope s_l_any_table) := ⟨rfl, rfl, rfl, by decide +kernel, rfl, by decide +kernel, by decide +kernel⟩
abbrev s_l_words : Stmt := topS 68
abbrev N_l_words : List Str := []
abbrev P_l_words : List Str := []
theorem S_l_words : FnScope N_l_words P_l_words (defScope s_l_words) := ⟨rfl, rfl, rfl, by decide +kernel, rfl, by decide +kernel, by decide +kernel⟩
abbrev s_l_collects : Stmt := topS 69
abbrev N_l_collects : List Str := ["_law_table_here", "_law_state", "_law_width", "_law_slots", "_law_colours", "_law_held", "_law_scanned", "_law_found", "_law_thread", "_law_some", "_law_number", "_law_colour", "_law_one"]
abbrev P_l_collects : List Str := ["_law_table_here", "_law_state"]
theorem S_l_collects : FnScope N_l_collects P_l_collects (defScope s_l_collects) := ⟨rfl, rfl, rfl, by decide +kernel, rfl, by decide +kernel, by decide +kernel⟩
abbrev s_l_small_heap : Stmt := topS 70
abbrev N_l_small_heap : List Str := ["_law_pot_here", "_law_width", "_law_count", "_law_slots", "_law_number", "_law_held", "_law_turn", "_law_thread"]
abbrev P_l_small_heap : List Str := ["_law_pot_here"]
theorem S_l_small_heap : FnScope N_l_small_heap P_l_small_heap (defScope s_l_small_heap) := ⟨rfl, rfl, rfl, by decide +kernel, rfl, by decide +kernel, by decide +kernel⟩
abbrev s_l_later : Stmt := topS 71
abbrev N_l_later : List Str := ["_law_pot_here", "_law_table_here", "_law_many", "_law_state", "_law_found", "_law_some", "_law_turn", "_law_word", "_law_step"]
abbrev P_l_later : List Str := ["_law_pot_here", "_law_table_here", "_law_many", "_law_state"]
theorem S_l_later : FnScope N_l_later P_l_later (defScope s_l_later) := ⟨rfl, rfl, rfl, by decide +kernel, rfl, by decide +kernel, by decide +kernel⟩
abbrev s_l_least : Stmt := topS 72
abbrev N_l_least : List Str := ["_law_pot_here", "_law_table_here", "_law_heap", "_law_lows", "_law_known", "_law_waiting", "_law_many", "_law_state", "_law_word"]
abbrev P_l_least : List Str := ["_law_pot_here", "_law_table_here", "_law_heap"]
theorem S_l_least : FnScope N_l_least P_l_least (defScope s_l_least) := ⟨rfl, rfl, rfl, by decide +kernel, rfl, by decide +kernel, by decide +kernel⟩
abbrev s_law : Stmt := topS 73
abbrev N_law : List Str := ["_law_script", "_law_pot_here", "_law_table_here", "_law_lows", "_law_word", "_law_told"]
abbrev P_law : List Str := ["_law_script"]
theorem S_law : FnScope N_law P_law (defScope s_law) := ⟨rfl, rfl, rfl, by decide +kernel, rfl, by decide +kernel, by decide +kernel⟩
end Sr
/-! The mathematics of the claim, in plain Lean: states, steps, what a run with few thread steps cannot break. -/
namespace Sb

inductive C where
  | black | grey | white
  deriving DecidableEq, Repr
inductive Who where
  | holder | old | new
  deriving DecidableEq, Repr

/-- a table, by what it shades -/
structure Tab where
  ld : Bool → C → Bool
  nw : Bool → Bool
  so : Bool → C → Option C → Option C → Who → Bool
  rs : Bool
structure Tab.Ok (T : Tab) : Prop where
  old : ∀ {k c o n}, T.so k c o n .old = true → o = some .white
  new : ∀ {k c o n}, T.so k c o n .new = true → n = some .white
  hol : ∀ {k c o n}, T.so k c o n .holder = true → c ≠ .grey

/-- a state, by its relations -/
structure A where
  col : Nat → Option C
  edge : Nat → Nat → Nat → Prop
  held : Nat → Nat → Prop
  sc : Nat → Bool

def W (a : A) (x : Nat) : Prop := a.col x = some .white
def S (a : A) (x : Nat) : Prop := W a x ∧ ∃ t, a.sc t = true ∧ a.held t x
def BW (a : A) (x : Nat) : Prop := W a x ∧ ∃ b s, a.col b = some .black ∧ a.edge b s x
def D (a : A) (x : Nat) : Prop := ∃ g s, a.col g = some .grey ∧ a.edge g s x
inductive Cov (a : A) : Nat → Prop where
  | direct {g s x : Nat} : a.col g = some .grey → a.edge g s x → W a x → Cov a x
  | next {y s x : Nat} : Cov a y → a.edge y s x → W a x → Cov a x
def H (a : A) (x : Nat) : Prop := ∃ t, a.held t x
def HU (a : A) (x : Nat) : Prop := ∃ t, a.sc t = false ∧ a.held t x

theorem Cov.w {a : A} {x : Nat} (h : Cov a x) : W a x := by
  cases h with
  | direct _ _ w => exact w
  | next _ _ w => exact w
theorem Cov.of {a : A} {x : Nat} (h : D a x) (w : W a x) : Cov a x := by
  obtain ⟨g, s, h1, h2⟩ := h
  exact .direct h1 h2 w

/-- col' is col but for what P tells, which is grey -/
def Shade (P : Nat → Prop) (col col' : Nat → Option C) : Prop := ∀ x, (P x → col' x = some .grey) ∧ (¬ P x → col' x = col x)

theorem Shade.cases {P : Nat → Prop} {c c' : Nat → Option C} (h : Shade P c c') (x : Nat) : (P x ∧ c' x = some .grey) ∨ (¬ P x ∧ c' x = c x) := by
  rcases Classical.em (P x) with p | p
  · exact .inl ⟨p, (h x).1 p⟩
  · exact .inr ⟨p, (h x).2 p⟩

/-- the collector's steps -/
inductive Coll (a a' : A) : Prop where
  | visit (t : Nat) (hc : Shade (fun x => W a x ∧ a.held t x) a.col a'.col) (he : a'.edge = a.edge) (hh : a'.held = a.held)
      (hs : ∀ u, a'.sc u = true ↔ (u = t ∨ a.sc u = true))
  | scan (o : Nat) (mid : Nat → Option C) (ho : a.col o = some .grey) (hm : Shade (fun x => W a x ∧ ∃ s, a.edge o s x) a.col mid)
      (hc : ∀ x, a'.col x = if x = o then some .black else mid x) (he : a'.edge = a.edge) (hh : a'.held = a.held) (hs : a'.sc = a.sc)

/-- what is shaded by a store -/
def ShSt (T : Tab) (k : Bool) (ch : C) (oc vc : Option C) (h : Nat) (old v : Option Nat) (y : Nat) : Prop :=
  (T.so k ch oc vc .holder = true ∧ y = h) ∨ (T.so k ch oc vc .old = true ∧ old = some y) ∨ (T.so k ch oc vc .new = true ∧ v = some y)

/-- the threads' steps -/
inductive Thr (T : Tab) (a a' : A) : Prop where
  | load (t h s x : Nat) (ch : C) (hh : a.held t h) (hch : a.col h = some ch) (hx : a.edge h s x)
      (hc : Shade (fun y => y = x ∧ W a x ∧ T.ld (a.sc t) ch = true) a.col a'.col) (he : a'.edge = a.edge)
      (hd : ∀ u y, a'.held u y ↔ (a.held u y ∨ (u = t ∧ y = x))) (hs : a'.sc = a.sc)
  | store (t h s : Nat) (old v : Option Nat) (ch : C) (hh : a.held t h) (hv : ∀ y, v = some y → a.held t y) (hch : a.col h = some ch)
      (hold : ∀ y, a.edge h s y ↔ old = some y)
      (hc : Shade (ShSt T (a.sc t) ch (old.bind a.col) (v.bind a.col) h old v) a.col a'.col)
      (he : ∀ o u y, a'.edge o u y ↔ ((o = h ∧ u = s ∧ v = some y) ∨ (¬ (o = h ∧ u = s) ∧ a.edge o u y))) (hd : a'.held = a.held) (hs : a'.sc = a.sc)
  | drop (t x : Nat) (hc : a'.col = a.col) (he : a'.edge = a.edge) (hd : ∀ u y, a'.held u y ↔ (a.held u y ∧ ¬ (u = t ∧ y = x))) (hs : a'.sc = a.sc)
  | new (t n : Nat) (hn : a.col n = none) (hi : ∀ o s, ¬ a.edge o s n) (ho : ∀ s x, ¬ a.edge n s x) (hhn : ∀ u, ¬ a.held u n)
      (hc : ∀ x, a'.col x = if x = n then some (if T.nw (a.sc t) = true then .black else .white) else a.col x) (he : a'.edge = a.edge)
      (hd : ∀ u y, a'.held u y ↔ (a.held u y ∨ (u = t ∧ y = n))) (hs : a'.sc = a.sc)

/-! ### the gaps of a table -/
def gN (T : Tab) : Prop := T.nw true = false
def gL (T : Tab) (c : C) : Prop := T.ld true c = false
def into (T : Tab) (k : Bool) (oc : Option C) : Prop := T.so k .black oc (some .white) .new = false ∧ T.so k .black oc (some .white) .holder = false
def gB (T : Tab) (k : Bool) : Prop := into T k none ∨ into T k (some .grey) ∨ into T k (some .black)
def gOW (T : Tab) : Prop := into T false (some .white)
def cut (T : Tab) (c : C) (k : Bool) (nc : Option C) : Prop := T.so k c (some .white) nc .old = false
def gC (T : Tab) (c : C) : Prop := ∃ k nc, cut T c k nc
/-- some cut at a grey holder is an easy one -/
def gCe (T : Tab) : Prop := ∃ k nc, ¬ (k = true ∧ nc = some .white) ∧ cut T .grey k nc

/-! ### what stays behind a collector's step -/
structure Later (a a' : A) : Prop where
  w : ∀ {x}, W a' x → W a x
  s : ∀ {x}, S a' x → S a x
  b : ∀ {x}, BW a' x → BW a x
  d : ∀ {x}, W a' x → D a x → D a' x
  c : ∀ {x}, W a' x → Cov a x → Cov a' x
  h : ∀ {x}, H a x → H a' x
  u : ∀ {x}, W a' x → HU a x → HU a' x

/-- shading alone keeps what is covered -/
theorem cov_shade {a a' : A} (hg : ∀ {x}, a.col x = some .grey → ∀ {s y}, a.edge x s y → W a' y → ∃ g u, a'.col g = some .grey ∧ a'.edge g u y)
    (hy : ∀ {y s x}, W a y → a.edge y s x → W a' x → (W a' y ∧ a'.edge y s x) ∨ ∃ g u, a'.col g = some .grey ∧ a'.edge g u x) {x : Nat} (h : Cov a x) : W a' x → Cov a' x := by
  induction h with
  | direct h1 h2 _ =>
    intro w
    obtain ⟨g, u, e1, e2⟩ := hg h1 h2 w
    exact .direct e1 e2 w
  | next h1 h2 _ ih =>
    intro w
    rcases hy h1.w h2 w with ⟨wy, e⟩ | ⟨g, u, e1, e2⟩
    · exact .next (ih wy) e w
    · exact .direct e1 e2 w

theorem Coll.later {a a' : A} (h : Coll a a') : Later a a' := by
  cases h with
  | visit t hc he hh hs =>
    have wg : ∀ {x}, W a' x → W a x ∧ ¬ a.held t x := fun {x} w => by
      rcases hc.cases x with ⟨_, e⟩ | ⟨n, e⟩
      · have w' : a'.col x = some .white := w
        rw [e] at w'; cases w'
      · have w' : a.col x = some .white := e.symm.trans w
        exact ⟨w', fun q => n ⟨w', q⟩⟩
    have gg : ∀ {x}, a.col x = some .grey → a'.col x = some .grey := fun {x} g => by
      rcases hc.cases x with ⟨_, e⟩ | ⟨n, e⟩
      · exact e
      · exact e.trans g
    have bb : ∀ {x}, a'.col x = some .black → a.col x = some .black := fun {x} b => by
      rcases hc.cases x with ⟨_, e⟩ | ⟨n, e⟩
      · rw [e] at b; cases b
      · exact e.symm.trans b
    have tw : ∀ {x}, W a x → ¬ W a' x → a'.col x = some .grey := fun {x} w n => by
      rcases hc.cases x with ⟨_, e⟩ | ⟨_, e⟩
      · exact e
      · exact absurd (show W a' x from e.trans w) n
    refine ⟨fun w => (wg w).1, fun ⟨w, u, h1, h2⟩ => ⟨(wg w).1, u, ?_, hh ▸ h2⟩, fun ⟨w, b, s, h1, h2⟩ => ⟨(wg w).1, b, s, bb h1, he ▸ h2⟩, fun w ⟨g, s, h1, h2⟩ => ⟨g, s, gg h1, he ▸ h2⟩, fun w q => ?_, fun ⟨u, e⟩ => ⟨u, hh ▸ e⟩, fun w ⟨u, h1, h2⟩ => ?_⟩
    · rcases (hs u).mp h1 with e | e
      · subst e
        exact absurd (hh ▸ h2) (wg w).2
      · exact e
    · refine cov_shade (fun {x} g {s y} e _ => ⟨x, s, gg g, he ▸ e⟩) (fun {y s x} wy e _ => ?_) q w
      rcases Classical.em (W a' y) with k | k
      · exact .inl ⟨k, he ▸ e⟩
      · exact .inr ⟨y, s, tw wy k, he ▸ e⟩
    · refine ⟨u, ?_, hh ▸ h2⟩
      cases q : a'.sc u with
      | false => rfl
      | true =>
        rcases (hs u).mp q with e | e
        · subst e
          exact absurd h2 (wg w).2
        · rw [h1] at e; cases e
  | scan o mid ho hm hc he hh hs =>
    have wg : ∀ {x}, W a' x → W a x ∧ ∀ s, ¬ a.edge o s x := fun {x} w => by
      have w' : a'.col x = some .white := w
      rw [hc x] at w'
      split at w'
      · cases w'
      · rcases hm.cases x with ⟨_, e⟩ | ⟨n, e⟩
        · rw [e] at w'; cases w'
        · rw [e] at w'
          exact ⟨w', fun s q => n ⟨w', s, q⟩⟩
    have gg : ∀ {x}, x ≠ o → a.col x = some .grey → a'.col x = some .grey := fun {x} n g => by
      rw [hc x, if_neg n]
      rcases hm.cases x with ⟨_, e⟩ | ⟨_, e⟩
      · exact e
      · exact e.trans g
    have bb : ∀ {x}, a'.col x = some .black → x = o ∨ a.col x = some .black := fun {x} b => by
      rw [hc x] at b
      split at b
      · rename_i e; exact .inl e
      · rcases hm.cases x with ⟨_, e⟩ | ⟨_, e⟩
        · rw [e] at b; cases b
        · exact .inr (e.symm.trans b)
    have tw : ∀ {x}, W a x → ¬ W a' x → a'.col x = some .grey := fun {x} w n => by
      have ne : x ≠ o := fun e => by subst e; rw [show a.col x = some .white from w] at ho; cases ho
      rw [hc x, if_neg ne]
      rcases hm.cases x with ⟨_, e⟩ | ⟨_, e⟩
      · exact e
      · exact absurd (show W a' x from by show a'.col x = _; rw [hc x, if_neg ne, e]; exact w) n
    refine ⟨fun w => (wg w).1, fun ⟨w, u, h1, h2⟩ => ⟨(wg w).1, u, hs ▸ h1, hh ▸ h2⟩, fun ⟨w, b, s, h1, h2⟩ => ⟨(wg w).1, b, s, ?_, he ▸ h2⟩, fun w ⟨g, s, h1, h2⟩ => ⟨g, s, gg ?_ h1, he ▸ h2⟩, fun w q => ?_, fun ⟨u, e⟩ => ⟨u, hh ▸ e⟩, fun w ⟨u, h1, h2⟩ => ⟨u, hs ▸ h1, hh ▸ h2⟩⟩
    · rcases bb h1 with e | e
      · subst e
        exact absurd (he ▸ h2) ((wg w).2 s)
      · exact e
    · rintro rfl
      exact (wg w).2 s h2
    · refine cov_shade (fun {x} g {s y} e w => ⟨x, s, gg (fun z => (wg w).2 s (z ▸ e)) g, he ▸ e⟩) (fun {y s x} wy e _ => ?_) q w
      rcases Classical.em (W a' y) with k | k
      · exact .inl ⟨k, he ▸ e⟩
      · exact .inr ⟨y, s, tw wy k, he ▸ e⟩

/-! ### what a thread's step does -/
/-- a load, a drop, a new object: nothing comes into a black object -/
structure Quiet (T : Tab) (a a' : A) : Prop where
  s : ∀ {x}, S a' x → S a x ∨ gN T ∨ (gL T .grey ∧ W a x ∧ D a x) ∨ (gL T .black ∧ BW a x) ∨ (gL T .white ∧ W a x ∧ ∃ h, S a h ∧ (Cov a h → Cov a x))
  one : ∃ z, ∀ {x}, S a' x → S a x ∨ x = z
  b : ∀ {x}, BW a' x → BW a x
  d : ∀ {x}, W a' x → D a x → D a' x
  c : ∀ {x}, W a' x → Cov a x → Cov a' x
  h : (∀ {x}, S a' x → S a x) ∨ ∀ {x}, H a x → H a' x
/-- a store into a black object -/
structure Into (T : Tab) (a a' : A) : Prop where
  s : ∀ {x}, S a' x → S a x
  b : ∀ {x}, BW a' x → BW a x ∨ (H a x ∧ ((S a x ∧ (gB T true ∨ ∃ o, BW a o)) ∨ (HU a' x ∧ (gB T false ∨ (gOW T ∧ ∃ o, BW a o)))))
  one : ∃ z, ∀ {x}, BW a' x → BW a x ∨ x = z
  d : ∀ {x}, W a' x → D a x → D a' x
  c : ∀ {x}, W a' x → Cov a x → Cov a' x
  h : ∀ {x}, H a x → H a' x
/-- a store into another one -/
structure Else (T : Tab) (a a' : A) : Prop where
  s : ∀ {x}, S a' x → S a x
  b : ∀ {x}, BW a' x → BW a x
  d : ∀ {x}, W a' x → D a x → D a' x ∨ (gC T .grey ∧ (gCe T ∨ ∃ v, S a v ∧ v ≠ x))
  c : ¬ gC T .grey → ¬ gC T .white → ∀ {x}, W a' x → Cov a x → Cov a' x
  h : ∀ {x}, H a x → H a' x
inductive Does (T : Tab) (a a' : A) : Prop where
  | quiet (h : Quiet T a a')
  | into (h : Into T a a')
  | else (h : Else T a a')

theorem not_true {b : Bool} (h : ¬ b = true) : b = false := by cases b <;> simp_all

theorem Thr.does {T : Tab} {a a' : A} (h : Thr T a a') : Does T a a' := by
  cases h with
  | load t h s x ch hh hch hx hc he hd hs =>
    have wg : ∀ {y}, W a' y → W a y ∧ ¬ (y = x ∧ W a x ∧ T.ld (a.sc t) ch = true) := fun {y} w => by
      rcases hc.cases y with ⟨_, e⟩ | ⟨n, e⟩
      · have w' : a'.col y = some .white := w
        rw [e] at w'; cases w'
      · exact ⟨e.symm.trans w, n⟩
    have gg : ∀ {y}, a.col y = some .grey → a'.col y = some .grey := fun {y} g => by
      rcases hc.cases y with ⟨_, e⟩ | ⟨_, e⟩
      · exact e
      · exact e.trans g
    have bb : ∀ {y}, a'.col y = some .black → a.col y = some .black := fun {y} b => by
      rcases hc.cases y with ⟨_, e⟩ | ⟨_, e⟩
      · rw [e] at b; cases b
      · exact e.symm.trans b
    have tw : ∀ {y}, W a y → ¬ W a' y → a'.col y = some .grey := fun {y} w n => by
      rcases hc.cases y with ⟨_, e⟩ | ⟨_, e⟩
      · exact e
      · exact absurd (show W a' y from e.trans w) n
    refine .quiet ⟨fun {y} ⟨w, u, h1, h2⟩ => ?_, ⟨x, fun {y} ⟨w, u, h1, h2⟩ => ?_⟩, fun ⟨w, b, u, h1, h2⟩ => ⟨(wg w).1, b, u, bb h1, he ▸ h2⟩, fun w ⟨g, u, h1, h2⟩ => ⟨g, u, gg h1, he ▸ h2⟩, fun w q => ?_, .inr fun ⟨u, e⟩ => ⟨u, (hd u _).mpr (.inl e)⟩⟩
    · rcases (hd u y).mp h2 with e | ⟨e1, e2⟩
      · exact .inl ⟨(wg w).1, u, hs ▸ h1, e⟩
      · subst e1 e2
        obtain ⟨wy, n⟩ := wg w
        have hsc : a.sc u = true := hs ▸ h1
        have hl : T.ld true ch = false := not_true fun q => n ⟨rfl, wy, by rw [hsc]; exact q⟩
        cases ch with
        | grey => exact .inr (.inr (.inl ⟨hl, wy, h, s, hch, hx⟩))
        | black => exact .inr (.inr (.inr (.inl ⟨hl, wy, h, s, hch, hx⟩)))
        | white => exact .inr (.inr (.inr (.inr ⟨hl, wy, h, ⟨hch, u, hsc, hh⟩, fun q => .next q hx wy⟩)))
    · rcases (hd u y).mp h2 with e | ⟨_, e2⟩
      · exact .inl ⟨(wg w).1, u, hs ▸ h1, e⟩
      · exact .inr e2
    · refine cov_shade (fun {x} g {s y} e _ => ⟨x, s, gg g, he ▸ e⟩) (fun {y s x} wy e _ => ?_) q w
      rcases Classical.em (W a' y) with k | k
      · exact .inl ⟨k, he ▸ e⟩
      · exact .inr ⟨y, s, tw wy k, he ▸ e⟩
  | drop t x hc he hd hs =>
    have ww : ∀ {y}, W a' y ↔ W a y := fun {y} => by unfold W; rw [hc]
    have ss : ∀ {y}, S a' y → S a y := fun ⟨w, u, h1, h2⟩ => ⟨ww.mp w, u, hs ▸ h1, ((hd u _).mp h2).1⟩
    refine .quiet ⟨fun q => .inl (ss q), ⟨0, fun q => .inl (ss q)⟩, fun ⟨w, b, u, h1, h2⟩ => ⟨ww.mp w, b, u, hc ▸ h1, he ▸ h2⟩, fun w ⟨g, u, h1, h2⟩ => ⟨g, u, hc ▸ h1, he ▸ h2⟩, fun w q => ?_, .inl ss⟩
    exact cov_shade (fun {x} g {s y} e _ => ⟨x, s, hc ▸ g, he ▸ e⟩) (fun {y s x} wy e _ => .inl ⟨ww.mpr wy, he ▸ e⟩) q w
  | new t n hn hi ho hhn hc he hd hs =>
    have old : ∀ {y}, y ≠ n → a'.col y = a.col y := fun {y} ne => by rw [hc y, if_neg ne]
    have ne1 : ∀ {y c}, a.col y = some c → y ≠ n := fun {y c} e z => by subst z; rw [hn] at e; cases e
    have ne2 : ∀ {o s y}, a'.edge o s y → o ≠ n ∧ y ≠ n := fun {o s y} e => by
      rw [he] at e
      exact ⟨fun z => ho s y (z ▸ e), fun z => hi o s (z ▸ e)⟩
    refine .quiet ⟨fun {y} ⟨w, u, h1, h2⟩ => ?_, ⟨n, fun {y} ⟨w, u, h1, h2⟩ => ?_⟩, fun ⟨w, b, u, h1, h2⟩ => ?_, fun w ⟨g, u, h1, h2⟩ => ⟨g, u, (old (ne1 h1)).trans h1, he ▸ h2⟩, fun w q => ?_, .inr fun ⟨u, e⟩ => ⟨u, (hd u _).mpr (.inl e)⟩⟩
    · rcases (hd u y).mp h2 with e | ⟨e1, e2⟩
      · have ne : y ≠ n := fun z => hhn u (z ▸ e)
        exact .inl ⟨(old ne).symm.trans w, u, hs ▸ h1, e⟩
      · subst e1 e2
        right; left
        have hsc : a.sc u = true := hs ▸ h1
        refine not_true fun q => ?_
        have w' : a'.col y = some .white := w
        rw [hc y, if_pos rfl, hsc, if_pos q] at w'
        cases w'
    · rcases (hd u y).mp h2 with e | ⟨_, e2⟩
      · have ne : y ≠ n := fun z => hhn u (z ▸ e)
        exact .inl ⟨(old ne).symm.trans w, u, hs ▸ h1, e⟩
      · exact .inr e2
    · obtain ⟨n1, n2⟩ := ne2 h2
      exact ⟨(old n2).symm.trans w, b, u, (old n1).symm.trans h1, he ▸ h2⟩
    · exact cov_shade (fun {x} g {s y} e _ => ⟨x, s, (old (ne1 g)).trans g, he ▸ e⟩) (fun {y s x} wy e _ => .inl ⟨(old (ne1 wy)).trans wy, he ▸ e⟩) q w
  | store t h s old v ch hh hv hch hold hc he hd hs =>
    have wg : ∀ {y}, W a' y → W a y ∧ ¬ ShSt T (a.sc t) ch (old.bind a.col) (v.bind a.col) h old v y := fun {y} w => by
      rcases hc.cases y with ⟨_, e⟩ | ⟨n, e⟩
      · have w' : a'.col y = some .white := w
        rw [e] at w'; cases w'
      · exact ⟨e.symm.trans w, n⟩
    have gg : ∀ {y}, a.col y = some .grey → a'.col y = some .grey := fun {y} g => by
      rcases hc.cases y with ⟨_, e⟩ | ⟨_, e⟩
      · exact e
      · exact e.trans g
    have bb : ∀ {y}, a'.col y = some .black → a.col y = some .black ∧ ¬ ShSt T (a.sc t) ch (old.bind a.col) (v.bind a.col) h old v y := fun {y} b => by
      rcases hc.cases y with ⟨_, e⟩ | ⟨n, e⟩
      · rw [e] at b; cases b
      · exact ⟨e.symm.trans b, n⟩
    have tw : ∀ {y}, W a y → ¬ W a' y → a'.col y = some .grey := fun {y} w n => by
      rcases hc.cases y with ⟨_, e⟩ | ⟨_, e⟩
      · exact e
      · exact absurd (show W a' y from e.trans w) n
    have ss : ∀ {y}, S a' y → S a y := fun ⟨w, u, h1, h2⟩ => ⟨(wg w).1, u, hs ▸ h1, hd ▸ h2⟩
    have hb : ∀ {y}, BW a' y → BW a y ∨ (v = some y ∧ W a y ∧ ch = .black ∧ into T (a.sc t) (old.bind a.col)) := fun {y} ⟨w, b, u, h1, h2⟩ => by
      rcases (he b u y).mp h2 with ⟨e1, e2, e3⟩ | ⟨_, e⟩
      · obtain ⟨hb1, hb2⟩ := bb h1
        obtain ⟨wy, nw⟩ := wg w
        rw [e1, hch] at hb1
        have hcb : ch = .black := Option.some.inj hb1
        subst hcb
        have hvc : v.bind a.col = some .white := by rw [e3]; exact wy
        rw [hvc] at nw hb2
        exact .inr ⟨e3, wy, rfl, not_true fun q => nw (.inr (.inr ⟨q, e3⟩)), not_true fun q => hb2 (.inl ⟨q, e1⟩)⟩
      · exact .inl ⟨(wg w).1, b, u, (bb h1).1, e⟩
    -- an edge of a shaded or of an untouched object
    have keep : ∀ {o u y}, ¬ (o = h ∧ u = s) → a.edge o u y → a'.edge o u y := fun {o u y} n e => (he o u y).mpr (.inr ⟨n, e⟩)
    have same : ∀ {y}, v = some y → a'.edge h s y := fun {y} e => (he h s y).mpr (.inl ⟨rfl, rfl, e⟩)
    -- a white old value that stays white: its mark is missing
    have cutOf : ∀ {y}, a.edge h s y → W a' y → cut T ch (a.sc t) (v.bind a.col) := fun {y} e w => by
      obtain ⟨wy, nw⟩ := wg w
      have ho := (hold y).mp e
      have hoc : old.bind a.col = some .white := by rw [ho]; exact wy
      rw [hoc] at nw
      exact not_true fun q => nw (.inr (.inl ⟨q, ho⟩))
    have covK : (ch = .grey → ¬ gC T .grey) → (ch = .white → ¬ gC T .white) → ∀ {x}, W a' x → Cov a x → Cov a' x := fun k1 k2 {x} w q => by
      refine cov_shade (fun {o} g {u y} e w => ?_) (fun {o u y} wo e w => ?_) q w
      · rcases Classical.em (o = h ∧ u = s) with ⟨e1, e2⟩ | n
        · subst e1 e2
          rw [hch] at g
          have e3 : ch = .grey := Option.some.inj g
          exact absurd ⟨_, _, e3 ▸ cutOf e w⟩ (k1 e3)
        · exact ⟨o, u, gg g, keep n e⟩
      · rcases Classical.em (o = h ∧ u = s) with ⟨e1, e2⟩ | n
        · subst e1 e2
          have wo' : a.col o = some .white := wo
          rw [hch] at wo'
          have e3 : ch = .white := Option.some.inj wo'
          exact absurd ⟨_, _, e3 ▸ cutOf e w⟩ (k2 e3)
        · rcases Classical.em (W a' o) with k | k
          · exact .inl ⟨k, keep n e⟩
          · exact .inr ⟨o, u, tw wo k, keep n e⟩
    have dK : ∀ {x}, W a' x → D a x → D a' x ∨ (ch = .grey ∧ cut T .grey (a.sc t) (v.bind a.col) ∧ v ≠ some x) := fun {x} w ⟨g, u, h1, h2⟩ => by
      rcases Classical.em (g = h ∧ u = s) with ⟨e1, e2⟩ | n
      · subst e1 e2
        have h1' := h1
        rw [hch] at h1'
        have e3 : ch = .grey := Option.some.inj h1'
        rcases Classical.em (v = some x) with e4 | e4
        · exact .inl ⟨g, u, gg h1, same e4⟩
        · exact .inr ⟨e3, e3 ▸ cutOf h2 w, e4⟩
      · exact .inl ⟨g, u, gg h1, keep n h2⟩
    cases ch with
    | black =>
      refine .into ⟨ss, fun {x} q => ?_, ⟨v.getD 0, fun {x} q => ?_⟩, fun w q => ?_, covK (fun z => nomatch z) (fun z => nomatch z), fun ⟨u, e⟩ => ⟨u, hd ▸ e⟩⟩
      · rcases hb q with z | ⟨e1, wx, _, hi⟩
        · exact .inl z
        · have hx := hv x e1
          -- what the slot had
          have cases3 : gB T (a.sc t) ∨ (into T (a.sc t) (some .white) ∧ ∃ o, BW a o) := by
            cases ho : old.bind a.col with
            | none => rw [ho] at hi; exact .inl (.inl hi)
            | some c =>
              rw [ho] at hi
              cases c with
              | grey => exact .inl (.inr (.inl hi))
              | black => exact .inl (.inr (.inr hi))
              | white =>
                refine .inr ⟨hi, ?_⟩
                cases old with
                | none => cases ho
                | some o => exact ⟨o, ho, h, s, hch, (hold o).mpr rfl⟩
          right
          refine ⟨⟨t, hx⟩, ?_⟩
          cases hsc : a.sc t with
          | true =>
            rw [hsc] at cases3
            left
            refine ⟨⟨wx, t, hsc, hx⟩, ?_⟩
            rcases cases3 with z | ⟨_, z⟩
            · exact .inl z
            · exact .inr z
          | false =>
            rw [hsc] at cases3
            right
            refine ⟨⟨t, by rw [hs]; exact hsc, by rw [hd]; exact hx⟩, ?_⟩
            rcases cases3 with z | ⟨z, y⟩
            · exact .inl z
            · exact .inr ⟨z, y⟩
      · rcases hb q with z | ⟨e1, _⟩
        · exact .inl z
        · right; rw [e1]; rfl
      · rcases dK w q with z | ⟨z, _⟩
        · exact z
        · cases z
    | grey =>
      refine .else ⟨ss, fun {x} q => ?_, fun {x} w q => ?_, fun k1 k2 {x} => covK (fun _ => k1) (fun _ => k2), fun ⟨u, e⟩ => ⟨u, hd ▸ e⟩⟩
      · rcases hb q with z | ⟨_, _, z, _⟩
        · exact z
        · cases z
      · rcases dK w q with z | ⟨_, z, ne⟩
        · exact .inl z
        · refine .inr ⟨⟨_, _, z⟩, ?_⟩
          rcases Classical.em (a.sc t = true ∧ v.bind a.col = some .white) with ⟨e1, e2⟩ | n
          · right
            cases v with
            | none => cases e2
            | some y => exact ⟨y, ⟨e2, t, e1, hv y rfl⟩, fun e => ne (by rw [e])⟩
          · exact .inl ⟨_, _, n, z⟩
    | white =>
      refine .else ⟨ss, fun {x} q => ?_, fun {x} w q => ?_, fun k1 k2 {x} => covK (fun _ => k1) (fun _ => k2), fun ⟨u, e⟩ => ⟨u, hd ▸ e⟩⟩
      · rcases hb q with z | ⟨_, _, z, _⟩
        · exact z
        · cases z
      · rcases dK w q with z | ⟨z, _⟩
        · exact .inl z
        · cases z
end Sb
namespace Sb

/-- states that k thread steps lead to -/
inductive R (T : Tab) : Nat → A → Prop where
  | start {a : A} (hc : ∀ x, a.col x = none ∨ a.col x = some .white) (hs : ∀ t, a.sc t = false) : R T 0 a
  | coll {k : Nat} {a a' : A} : R T k a → Coll a a' → R T k a'
  | thr {k : Nat} {a a' : A} : R T k a → Thr T a a' → R T (k + 1) a'

def NS (a : A) : Prop := ∀ x, ¬ S a x
def NB (a : A) : Prop := ∀ x, ¬ BW a x
def S1 (a : A) : Prop := ∀ x y, S a x → S a y → x = y
/-- the F are G -/
def Sub (F G : A → Nat → Prop) (a : A) : Prop := ∀ x, F a x → G a x
def DnH (a : A) (x : Nat) : Prop := D a x ∧ H a x
def CvU (a : A) (x : Nat) : Prop := Cov a x ∨ HU a x
def CvH (a : A) (x : Nat) : Prop := Cov a x ∨ H a x

/-- what stays behind a collector's step -/
def St (P : A → Prop) : Prop := ∀ a a', P a → Later a a' → P a'
theorem St.and {P Q : A → Prop} (h1 : St P) (h2 : St Q) : St fun a => P a ∧ Q a := fun a a' ⟨p, q⟩ l => ⟨h1 a a' p l, h2 a a' q l⟩
theorem St.or {P Q : A → Prop} (h1 : St P) (h2 : St Q) : St fun a => P a ∨ Q a := fun a a' h l => h.imp (fun p => h1 a a' p l) fun q => h2 a a' q l
theorem St.imp {c : Prop} {P : A → Prop} (h : St P) : St fun a => c → P a := fun a a' p l z => h a a' (p z) l
theorem St.ns : St NS := fun _ _ h l x q => h x (l.s q)
theorem St.nb : St NB := fun _ _ h l x q => h x (l.b q)
theorem St.s1 : St S1 := fun _ _ h l x y p q => h x y (l.s p) (l.s q)
/-- a word of objects that a white one keeps -/
def Kp (G : A → Nat → Prop) : Prop := ∀ a a', Later a a' → ∀ x, W a' x → G a x → G a' x
theorem Kp.d : Kp D := fun _ _ l _ w q => l.d w q
theorem Kp.c : Kp Cov := fun _ _ l _ w q => l.c w q
theorem Kp.dnh : Kp DnH := fun _ _ l _ w q => ⟨l.d w q.1, l.h q.2⟩
theorem Kp.cvu : Kp CvU := fun _ _ l _ w q => q.imp (l.c w) (l.u w)
theorem Kp.cvh : Kp CvH := fun _ _ l _ w q => q.imp (l.c w) l.h
theorem St.s {G : A → Nat → Prop} (h : Kp G) : St (Sub S G) := fun a a' p l x q => h a a' l x q.1 (p x (l.s q))
theorem St.b {G : A → Nat → Prop} (h : Kp G) : St (Sub BW G) := fun a a' p l x q => h a a' l x q.1 (p x (l.b q))

section
variable {T : Tab}
theorem R.always {P : A → Prop} (h0 : ∀ a, NS a → NB a → P a) (hl : St P) (hs : ∀ a a', P a → Does T a a' → P a') {k : Nat} {a : A} (r : R T k a) : P a := by
  induction r with
  | start hc hs =>
    refine h0 _ (fun x ⟨_, t, e, _⟩ => ?_) fun x ⟨_, b, s, e, _⟩ => ?_
    · rw [hs t] at e; cases e
    · rcases hc b with z | z <;> rw [z] at e <;> cases e
  | coll _ c ih => exact hl _ _ ih c.later
  | thr _ c ih => exact hs _ _ ih c.does
theorem R.zero {a : A} (r : R T 0 a) : NS a ∧ NB a := by
  have key : ∀ {k a}, R T k a → k = 0 → NS a ∧ NB a := by
    intro k a r
    induction r with
    | start hc hs =>
      intro _
      refine ⟨fun x ⟨_, t, e, _⟩ => ?_, fun x ⟨_, b, s, e, _⟩ => ?_⟩
      · rw [hs t] at e; cases e
      · rcases hc b with z | z <;> rw [z] at e <;> cases e
    | coll _ c ih => exact fun z => (St.ns.and St.nb) _ _ (ih z) c.later
    | thr _ _ _ => exact fun z => nomatch z
  exact key r rfl
theorem R.stage {P Q : A → Prop} {k : Nat} (hp : ∀ a, R T k a → P a) (hl : St Q) (hs : ∀ a a', P a → Does T a a' → Q a') {a : A} (r : R T (k + 1) a) : Q a := by
  have key : ∀ {j a}, R T j a → j = k + 1 → Q a := by
    intro j a r
    induction r with
    | start _ _ => exact fun z => nomatch z
    | coll _ c ih => exact fun z => hl _ _ (ih z) c.later
    | thr r' c _ =>
      intro z
      have e := Nat.succ.inj z
      subst e
      exact hs _ _ (hp _ r') c.does
  exact key r rfl

/-! ### one step -/
/-- behind one thread step -/
structure E1 (T : Tab) (a : A) : Prop where
  d : Sub S D a
  one : S1 a
  nb : ¬ gB T false → NB a
  ns : ¬ gL T .grey → NS a
  u : Sub BW CvU a
  h : Sub BW CvH a
theorem E1.st : St (E1 T) := fun a a' e l => ⟨St.s Kp.d a a' e.d l, St.s1 a a' e.one l, St.nb.imp a a' e.nb l, St.ns.imp a a' e.ns l, St.b Kp.cvu a a' e.u l, St.b Kp.cvh a a' e.h l⟩
theorem e1 (hN : ¬ gN T) {a : A} (r : R T 1 a) : E1 T a := by
  refine R.stage (P := fun a => NS a ∧ NB a) (fun a r => r.zero) E1.st (fun a a' ⟨ns, nb⟩ d => ?_) r
  cases d with
  | quiet q =>
    have news : ∀ {x}, S a' x → gL T .grey ∧ W a x ∧ D a x := fun {x} s => by
      rcases q.s s with z | z | z | z | z
      · exact absurd z (ns x)
      · exact absurd z hN
      · exact z
      · exact absurd z.2 (nb x)
      · obtain ⟨_, _, h, z, _⟩ := z; exact absurd z (ns h)
    refine ⟨fun x s => q.d s.1 (news s).2.2, fun x y s1 s2 => ?_, fun _ x b => nb x (q.b b), fun hg x s => hg (news s).1, fun x b => absurd (q.b b) (nb x), fun x b => absurd (q.b b) (nb x)⟩
    obtain ⟨z, hz⟩ := q.one
    rw [(hz s1).resolve_left (ns x), (hz s2).resolve_left (ns y)]
  | into q =>
    have n' : NS a' := fun x s => ns x (q.s s)
    have hb : ∀ {x}, BW a' x → H a x ∧ HU a' x ∧ gB T false := fun {x} b => by
      rcases q.b b with z | ⟨h, z | ⟨u, z⟩⟩
      · exact absurd z (nb x)
      · exact absurd z.1 (ns x)
      · rcases z with z | ⟨_, o, z⟩
        · exact ⟨h, u, z⟩
        · exact absurd z (nb o)
    exact ⟨fun x s => absurd s (n' x), fun x y s => absurd s (n' x), fun hg x b => hg (hb b).2.2, fun _ => n', fun x b => .inr (hb b).2.1, fun x b => .inr (q.h (hb b).1)⟩
  | «else» q =>
    have n' : NS a' := fun x s => ns x (q.s s)
    have nb' : NB a' := fun x b => nb x (q.b b)
    exact ⟨fun x s => absurd s (n' x), fun x y s => absurd s (n' x), fun _ => nb', fun _ => n', fun x b => absurd b (nb' x), fun x b => absurd b (nb' x)⟩
/-- one step, a new object of a scanned thread may be white -/
theorem e1n (hU : ¬ gB T false) {a : A} (r : R T 1 a) : NB a := by
  refine R.stage (P := fun a => NS a ∧ NB a) (fun a r => r.zero) St.nb (fun a a' ⟨ns, nb⟩ d => ?_) r
  cases d with
  | quiet q => exact fun x b => nb x (q.b b)
  | into q =>
    intro x b
    rcases q.b b with z | ⟨h, z | ⟨u, z⟩⟩
    · exact nb x z
    · exact ns x z.1
    · rcases z with z | ⟨_, o, z⟩
      · exact hU z
      · exact nb o z
  | «else» q => exact fun x b => nb x (q.b b)
theorem e1h {a : A} (r : R T 1 a) : Sub BW CvH a := by
  refine R.stage (P := fun a => NS a ∧ NB a) (fun a r => r.zero) (St.b Kp.cvh) (fun a a' ⟨ns, nb⟩ d => ?_) r
  cases d with
  | quiet q => exact fun x b => absurd (q.b b) (nb x)
  | into q =>
    intro x b
    rcases q.b b with z | ⟨h, _⟩
    · exact absurd z (nb x)
    · exact .inr (q.h h)
  | «else» q => exact fun x b => absurd (q.b b) (nb x)

/-! ### for ever -/
theorem always_sc (hN : ¬ gN T) (hG : ¬ gL T .grey) (hU : ¬ gB T false) {k : Nat} {a : A} (r : R T k a) : NS a ∧ NB a := by
  refine R.always (P := fun a => NS a ∧ NB a) (fun a h1 h2 => ⟨h1, h2⟩) (St.ns.and St.nb) (fun a a' ⟨ns, nb⟩ d => ?_) r
  cases d with
  | quiet q =>
    refine ⟨fun x s => ?_, fun x b => nb x (q.b b)⟩
    rcases q.s s with z | z | z | z | z
    · exact ns x z
    · exact hN z
    · exact hG z.1
    · exact nb x z.2
    · obtain ⟨_, _, h, z, _⟩ := z; exact ns h z
  | into q =>
    refine ⟨fun x s => ns x (q.s s), fun x b => ?_⟩
    rcases q.b b with z | ⟨h, z | ⟨u, z⟩⟩
    · exact nb x z
    · exact ns x z.1
    · rcases z with z | ⟨_, o, z⟩
      · exact hU z
      · exact nb o z
  | «else» q => exact ⟨fun x s => ns x (q.s s), fun x b => nb x (q.b b)⟩
theorem always_ns (hN : ¬ gN T) (hG : ¬ gL T .grey) (hB : ¬ gL T .black) {k : Nat} {a : A} (r : R T k a) : NS a := by
  refine R.always (P := NS) (fun a h1 _ => h1) St.ns (fun a a' ns d => ?_) r
  cases d with
  | quiet q =>
    intro x s
    rcases q.s s with z | z | z | z | z
    · exact ns x z
    · exact hN z
    · exact hG z.1
    · exact hB z.1
    · obtain ⟨_, _, h, z, _⟩ := z; exact ns h z
  | into q => exact fun x s => ns x (q.s s)
  | «else» q => exact fun x s => ns x (q.s s)
theorem always_nb (hU : ¬ gB T false) (hS : ¬ gB T true) {k : Nat} {a : A} (r : R T k a) : NB a := by
  refine R.always (P := NB) (fun a _ h2 => h2) St.nb (fun a a' nb d => ?_) r
  cases d with
  | quiet q => exact fun x b => nb x (q.b b)
  | into q =>
    intro x b
    rcases q.b b with z | ⟨h, ⟨_, z⟩ | ⟨u, z⟩⟩
    · exact nb x z
    · rcases z with z | ⟨o, z⟩
      · exact hS z
      · exact nb o z
    · rcases z with z | ⟨_, o, z⟩
      · exact hU z
      · exact nb o z
  | «else» q => exact fun x b => nb x (q.b b)

/-- G is D or Cov: kept by a thread's step where no cut at a grey holder is open -/
structure Good (T : Tab) (G : A → Nat → Prop) : Prop where
  kp : Kp G
  of : ∀ {a x}, W a x → D a x → G a x
  cov : ∀ {a x}, W a x → G a x → Cov a x
  step : ∀ {a a'}, Does T a a' → ∀ {x}, W a' x → G a x → G a' x
  w : ∀ {a}, Sub S G a → gL T .white → ∀ {h x}, S a h → W a x → (Cov a h → Cov a x) → G a x
theorem good_d (hC : ¬ gC T .grey) (hW : ¬ gL T .white) : Good T D := by
  refine ⟨Kp.d, fun _ d => d, fun w d => .of d w, fun {a a'} d {x} w q => ?_, fun _ z => absurd z hW⟩
  cases d with
  | quiet r => exact r.d w q
  | into r => exact r.d w q
  | «else» r => exact (r.d w q).resolve_right fun z => hC z.1
theorem good_c (hC : ¬ gC T .grey) (hC2 : ¬ gC T .white) : Good T Cov := by
  refine ⟨Kp.c, fun w d => .of d w, fun _ d => d, fun {a a'} d {x} w q => ?_, fun {a} s _ {h x} sh _ f => f (s h sh)⟩
  cases d with
  | quiet r => exact r.c w q
  | into r => exact r.c w q
  | «else» r => exact r.c hC hC2 w q
theorem good_of (hC : ¬ gC T .grey) (h : ¬ (gL T .white ∧ gC T .white)) : ∃ G, Good T G := by
  rcases Classical.em (gL T .white) with z | z
  · exact ⟨Cov, good_c hC fun q => h ⟨z, q⟩⟩
  · exact ⟨D, good_d hC z⟩
/-- the white objects of scanned threads stay good, those from black objects where they are asked -/
theorem good_s {G : A → Nat → Prop} (g : Good T G) (hN : ¬ gN T) {a a' : A} (d : Does T a a') (ss : Sub S G a) (hb : gL T .black → Sub BW G a) : Sub S G a' := by
  intro x s
  cases d with
  | quiet q =>
    refine g.step (.quiet q) s.1 ?_
    rcases q.s s with z | z | z | z | z
    · exact ss x z
    · exact absurd z hN
    · exact g.of z.2.1 z.2.2
    · exact hb z.1 x z.2
    · obtain ⟨hl, w, h, z, f⟩ := z
      exact g.w ss hl z w f
  | into q => exact g.step (.into q) s.1 (ss x (q.s s))
  | «else» q => exact g.step (.else q) s.1 (ss x (q.s s))
/-- the white objects in black ones stay good where no unscanned thread can put them there -/
theorem good_b {G : A → Nat → Prop} (g : Good T G) (hU : ¬ gB T false) {a a' : A} (d : Does T a a') (ss : Sub S G a) (bb : Sub BW G a) (ho : gOW T → NB a) : Sub BW G a' := by
  intro x b
  cases d with
  | quiet q => exact g.step (.quiet q) b.1 (bb x (q.b b))
  | into q =>
    refine g.step (.into q) b.1 ?_
    rcases q.b b with z | ⟨h, z | ⟨u, z⟩⟩
    · exact bb x z
    · exact ss x z.1
    · rcases z with z | ⟨z, o, y⟩
      · exact absurd z hU
      · exact absurd y (ho z o)
  | «else» q => exact g.step (.else q) b.1 (bb x (q.b b))
end
end Sb
namespace Sb
section
variable {T : Tab}
/-- S and BW together -/
def SB (a : A) (x : Nat) : Prop := S a x ∨ BW a x
def U1 (a : A) : Prop := ∀ x y, SB a x → SB a y → x = y
theorem St.u1 : St U1 := fun _ _ h l x y p q => h x y (p.imp l.s l.b) (q.imp l.s l.b)

/-! ### two steps -/
theorem e2b (hN : ¬ gN T) (hU : ¬ gB T false) {a : A} (r : R T 2 a) : Sub BW DnH a := by
  refine R.stage (P := E1 T) (fun a r => e1 hN r) (St.b Kp.dnh) (fun a a' e d => ?_) r
  have nb := e.nb hU
  cases d with
  | quiet q => exact fun x b => absurd (q.b b) (nb x)
  | into q =>
    intro x b
    rcases q.b b with z | ⟨h, z | ⟨u, z⟩⟩
    · exact absurd z (nb x)
    · exact ⟨q.d b.1 (e.d x z.1), q.h h⟩
    · rcases z with z | ⟨_, o, z⟩
      · exact absurd z hU
      · exact absurd z (nb o)
  | «else» q => exact fun x b => absurd (q.b b) (nb x)
/-- behind two thread steps, where no cut at a grey holder is easy -/
def E2 (a : A) : Prop := (NB a ∧ Sub S Cov a) ∨ (Sub S D a ∧ Sub BW DnH a ∧ U1 a)
theorem E2.st : St E2 := St.or (St.nb.and (St.s Kp.c)) ((St.s Kp.d).and ((St.b Kp.dnh).and St.u1))
theorem e2 (hN : ¬ gN T) (hU : ¬ gB T false) (hC : ¬ gCe T) {a : A} (r : R T 2 a) : E2 a := by
  refine R.stage (P := E1 T) (fun a r => e1 hN r) E2.st (fun a a' e d => ?_) r
  have nb := e.nb hU
  cases d with
  | quiet q =>
    refine .inl ⟨fun x b => nb x (q.b b), fun x s => ?_⟩
    rcases q.s s with z | z | z | z | z
    · exact q.c s.1 (.of (e.d x z) z.1)
    · exact absurd z hN
    · exact q.c s.1 (.of z.2.2 z.2.1)
    · exact absurd z.2 (nb x)
    · obtain ⟨_, _, h, z, f⟩ := z
      exact q.c s.1 (f (.of (e.d h z) z.1))
  | into q =>
    have hb : ∀ {x}, BW a' x → S a x ∧ H a x := fun {x} b => by
      rcases q.b b with z | ⟨h, z | ⟨u, z⟩⟩
      · exact absurd z (nb x)
      · exact ⟨z.1, h⟩
      · rcases z with z | ⟨_, o, z⟩
        · exact absurd z hU
        · exact absurd z (nb o)
    have hs : ∀ {x}, SB a' x → S a x := fun {x} z => z.elim q.s fun b => (hb b).1
    exact .inr ⟨fun x s => q.d s.1 (e.d x (q.s s)), fun x b => ⟨q.d b.1 (e.d x (hb b).1), q.h (hb b).2⟩, fun x y p r => e.one x y (hs p) (hs r)⟩
  | «else» q =>
    refine .inl ⟨fun x b => nb x (q.b b), fun x s => ?_⟩
    have sx := q.s s
    rcases q.d s.1 (e.d x sx) with z | ⟨_, z | ⟨v, z, ne⟩⟩
    · exact .of z s.1
    · exact absurd z hC
    · exact absurd (e.one v x z sx) ne
/-- the same, of scanned threads alone -/
theorem e2s (hN : ¬ gN T) (hU : ¬ (gB T false ∧ gL T .black)) (hC : ¬ gCe T) {a : A} (r : R T 2 a) : ∀ x, S a x → D a x ∨ (gL T .white ∧ Cov a x) := by
  refine R.stage (P := E1 T) (Q := Sub S fun a x => D a x ∨ (gL T .white ∧ Cov a x)) (fun a r => e1 hN r) (St.s fun _ _ l _ w q => q.imp (l.d w) fun z => ⟨z.1, l.c w z.2⟩) (fun a a' e d => ?_) r
  cases d with
  | quiet q =>
    intro x s
    rcases q.s s with z | z | z | z | z
    · exact .inl (q.d s.1 (e.d x z))
    · exact absurd z hN
    · exact .inl (q.d s.1 z.2.2)
    · exact absurd z.2 (e.nb (fun y => hU ⟨y, z.1⟩) x)
    · obtain ⟨hl, _, h, z, f⟩ := z
      exact .inr ⟨hl, q.c s.1 (f (.of (e.d h z) z.1))⟩
  | into q => exact fun x s => .inl (q.d s.1 (e.d x (q.s s)))
  | «else» q =>
    intro x s
    have sx := q.s s
    rcases q.d s.1 (e.d x sx) with z | ⟨_, z | ⟨v, z, ne⟩⟩
    · exact .inl z
    · exact absurd z hC
    · exact absurd (e.one v x z sx) ne

/-! ### three, four steps -/
def Rob (a : A) (x : Nat) : Prop := Cov a x ∧ (H a x ∨ (D a x ∧ ∀ y, S a y → y = x))
theorem Kp.rob : Kp Rob := fun _ _ l _ w q => ⟨l.c w q.1, q.2.imp l.h fun z => ⟨l.d w z.1, fun y s => z.2 y (l.s s)⟩⟩
theorem e3 (hN : ¬ gN T) (hU : ¬ gB T false) (hC : ¬ gCe T) (hO : ¬ gOW T) {a : A} (r : R T 3 a) : Sub BW Rob a := by
  refine R.stage (P := E2) (fun a r => e2 hN hU hC r) (St.b Kp.rob) (fun a a' e d => ?_) r
  rcases e with ⟨nb, sc⟩ | ⟨sd, bd, un⟩
  · cases d with
    | quiet q => exact fun x b => absurd (q.b b) (nb x)
    | into q =>
      intro x b
      rcases q.b b with z | ⟨h, z | ⟨u, z⟩⟩
      · exact absurd z (nb x)
      · exact ⟨q.c b.1 (sc x z.1), .inl (q.h h)⟩
      · rcases z with z | ⟨z, _⟩
        · exact absurd z hU
        · exact absurd z hO
    | «else» q => exact fun x b => absurd (q.b b) (nb x)
  · cases d with
    | quiet q =>
      intro x b
      have bx := q.b b
      obtain ⟨dx, hx⟩ := bd x bx
      have d' := q.d b.1 dx
      refine ⟨.of d' b.1, ?_⟩
      rcases q.h with z | z
      · exact .inr ⟨d', fun y s => un y x (.inl (z s)) (.inr bx)⟩
      · exact .inl (z hx)
    | into q =>
      intro x b
      rcases q.b b with z | ⟨h, z | ⟨u, z⟩⟩
      · obtain ⟨dx, hx⟩ := bd x z
        exact ⟨.of (q.d b.1 dx) b.1, .inl (q.h hx)⟩
      · exact ⟨.of (q.d b.1 (sd x z.1)) b.1, .inl (q.h h)⟩
      · rcases z with z | ⟨z, _⟩
        · exact absurd z hU
        · exact absurd z hO
    | «else» q =>
      intro x b
      have bx := q.b b
      obtain ⟨dx, hx⟩ := bd x bx
      refine ⟨?_, .inl (q.h hx)⟩
      rcases q.d b.1 dx with z | ⟨_, z | ⟨v, z, ne⟩⟩
      · exact .of z b.1
      · exact absurd z hC
      · exact absurd (un v x (.inl z) (.inr bx)) ne
theorem e4 (hN : ¬ gN T) (hU : ¬ gB T false) (hC : ¬ gCe T) (hO : ¬ gOW T) {a : A} (r : R T 4 a) : Sub BW CvH a := by
  refine R.stage (P := Sub BW Rob) (fun a r => e3 hN hU hC hO r) (St.b Kp.cvh) (fun a a' e d => ?_) r
  cases d with
  | quiet q => exact fun x b => .inl (q.c b.1 (e x (q.b b)).1)
  | into q =>
    intro x b
    rcases q.b b with z | ⟨h, _⟩
    · exact .inl (q.c b.1 (e x z).1)
    · exact .inr (q.h h)
  | «else» q =>
    intro x b
    rcases (e x (q.b b)).2 with h | ⟨dx, un⟩
    · exact .inr (q.h h)
    · rcases q.d b.1 dx with z | ⟨_, z | ⟨v, z, ne⟩⟩
      · exact .inl (.of z b.1)
      · exact absurd z hC
      · exact absurd (un v z) ne

/-! ### for ever, and the steps ahead of a store by an unscanned thread over a white object -/
theorem both2 {G : A → Nat → Prop} (g : Good T G) (hN : ¬ gN T) (hU : ¬ gB T false) {a : A} (r : R T 2 a) : Sub S G a ∧ Sub BW G a := by
  refine R.stage (P := E1 T) (fun a r => e1 hN r) ((St.s g.kp).and (St.b g.kp)) (fun a a' e d => ?_) r
  have ss : Sub S G a := fun x s => g.of s.1 (e.d x s)
  have bb : Sub BW G a := fun x b => absurd b (e.nb hU x)
  exact ⟨good_s g hN d ss fun _ => bb, good_b g hU d ss bb fun _ => e.nb hU⟩
theorem both_always {G : A → Nat → Prop} (g : Good T G) (hN : ¬ gN T) (hU : ¬ gB T false) (hO : ¬ gOW T) {k : Nat} {a : A} (r : R T k a) : Sub S G a ∧ Sub BW G a :=
  R.always (P := fun a => Sub S G a ∧ Sub BW G a) (fun a h1 h2 => ⟨fun x s => absurd s (h1 x), fun x b => absurd b (h2 x)⟩) ((St.s g.kp).and (St.b g.kp))
    (fun a a' ⟨ss, bb⟩ d => ⟨good_s g hN d ss fun _ => bb, good_b g hU d ss bb fun z => absurd z hO⟩) r
theorem s_always {G : A → Nat → Prop} (g : Good T G) (hN : ¬ gN T) (hB : ¬ gL T .black) {k : Nat} {a : A} (r : R T k a) : Sub S G a :=
  R.always (P := Sub S G) (fun a h1 _ x s => absurd s (h1 x)) (St.s g.kp) (fun a a' ss d => good_s g hN d ss fun z => absurd z hB) r
theorem s_nb_always {G : A → Nat → Prop} (g : Good T G) (hN : ¬ gN T) (hU : ¬ gB T false) (hS : ¬ gB T true) {k : Nat} {a : A} (r : R T k a) : Sub S G a ∧ NB a := by
  refine ⟨?_, always_nb hU hS r⟩
  refine (R.always (P := fun a => Sub S G a ∧ NB a) (fun a h1 h2 => ⟨fun x s => absurd s (h1 x), h2⟩) ((St.s g.kp).and St.nb) (fun a a' ⟨ss, nb⟩ d => ⟨good_s g hN d ss fun _ x b => absurd b (nb x), ?_⟩) r).1
  cases d with
  | quiet q => exact fun x b => nb x (q.b b)
  | into q =>
    intro x b
    rcases q.b b with z | ⟨h, ⟨_, z⟩ | ⟨u, z⟩⟩
    · exact nb x z
    · rcases z with z | ⟨o, z⟩
      · exact hS z
      · exact nb o z
    · rcases z with z | ⟨_, o, z⟩
      · exact hU z
      · exact nb o z
  | «else» q => exact fun x b => nb x (q.b b)

/-! ### THE WORDS: what k thread steps cannot break -/
theorem ok_clean {k : Nat} {a : A} (h1 : 1 ≤ k → ¬ gN T ∧ ¬ gL T .grey) (h2 : 2 ≤ k → ¬ (gB T false ∧ gL T .black)) (r : R T k a) : NS a := by
  match k, h1, h2, r with
  | 0, _, _, r => exact r.zero.1
  | 1, h1, _, r => exact (e1 (h1 (by omega)).1 r).ns (h1 (by omega)).2
  | k + 2, h1, h2, r =>
    obtain ⟨hN, hG⟩ := h1 (by omega)
    rcases Classical.em (gB T false) with z | z
    · exact always_ns hN hG (fun y => h2 (by omega) ⟨z, y⟩) r
    · exact (always_sc hN hG z r).1
theorem ok_strong {k : Nat} {a : A} (h1 : 1 ≤ k → ¬ gB T false) (h2 : 2 ≤ k → ¬ (gN T ∧ gB T true) ∧ ¬ (gL T .grey ∧ gB T true)) (r : R T k a) : NB a := by
  match k, h1, h2, r with
  | 0, _, _, r => exact r.zero.2
  | 1, h1, _, r => exact e1n (h1 (by omega)) r
  | k + 2, h1, h2, r =>
    rcases Classical.em (gB T true) with z | z
    · exact (always_sc (fun y => (h2 (by omega)).1 ⟨y, z⟩) (fun y => (h2 (by omega)).2 ⟨y, z⟩) (h1 (by omega)) r).2
    · exact always_nb (h1 (by omega)) z r
theorem ok_weak {k : Nat} {a : A} (h1 : 1 ≤ k → ¬ gB T false) (h2 : 2 ≤ k → ¬ (gN T ∧ gB T true)) (h3 : 3 ≤ k → ¬ (gL T .grey ∧ gB T true ∧ gCe T)) (h3' : 3 ≤ k → ¬ (gL T .grey ∧ gB T true ∧ gOW T))
    (h4 : 4 ≤ k → ¬ (gL T .grey ∧ gB T true ∧ gC T .grey)) (h4' : 4 ≤ k → ¬ (gL T .grey ∧ gL T .white ∧ gB T true ∧ gC T .white)) (r : R T k a) : Sub BW Cov a := by
  match k, h1, h2, h3, h3', h4, h4', r with
  | 0, _, _, _, _, _, _, r => exact fun x b => absurd b (r.zero.2 x)
  | 1, h1, _, _, _, _, _, r => exact fun x b => absurd b (e1n (h1 (by omega)) r x)
  | k + 2, h1, h2, h3, h3', h4, h4', r =>
    have hU := h1 (by omega)
    rcases Classical.em (gB T true) with hS | hS
    · have hN : ¬ gN T := fun y => h2 (by omega) ⟨y, hS⟩
      rcases Classical.em (gL T .grey) with hG | hG
      · match k, h3, h3', h4, h4', r with
        | 0, _, _, _, _, r => exact fun x b => .of (e2b hN hU r x b).1 b.1
        | 1, h3, h3', _, _, r => exact fun x b => (e3 hN hU (fun y => h3 (by omega) ⟨hG, hS, y⟩) (fun y => h3' (by omega) ⟨hG, hS, y⟩) r x b).1
        | k + 2, _, h3', h4, h4', r =>
          obtain ⟨G, g⟩ := good_of (fun y => h4 (by omega) ⟨hG, hS, y⟩) fun y => h4' (by omega) ⟨hG, y.1, hS, y.2⟩
          exact fun x b => g.cov b.1 ((both_always g hN hU (fun y => h3' (by omega) ⟨hG, hS, y⟩) r).2 x b)
      · exact fun x b => absurd b ((always_sc hN hG hU r).2 x)
    · exact fun x b => absurd b (always_nb hU hS r x)

/-- direct and covered: G is the word -/
theorem ok_held {k : Nat} {a : A} {G : A → Nat → Prop} (g : Good T G) (hN : ¬ gN T) (hUB : ¬ (gB T false ∧ gL T .black)) (h4 : 4 ≤ k → ¬ (gB T true ∧ gOW T ∧ gL T .black)) (hk : 3 ≤ k) (r : R T k a) : Sub S G a := by
  rcases Classical.em (gL T .black) with hB | hB
  · have hU : ¬ gB T false := fun y => hUB ⟨y, hB⟩
    match k, h4, hk, r with
    | 3, _, _, r => exact R.stage (P := fun a => Sub S G a ∧ Sub BW G a) (fun a r => both2 g hN hU r) (St.s g.kp) (fun a a' e d => good_s g hN d e.1 fun _ => e.2) r
    | k + 4, h4, _, r =>
      rcases Classical.em (gB T true) with hS | hS
      · exact (both_always g hN hU (fun y => h4 (by omega) ⟨hS, y, hB⟩) r).1
      · exact (s_nb_always g hN hU hS r).1
  · exact s_always g hN hB r
theorem none_held {k : Nat} {a : A} (hN : ¬ gN T) (hG : ¬ gL T .grey) (hUB : ¬ (gB T false ∧ gL T .black)) (r : R T k a) : NS a := by
  rcases Classical.em (gL T .black) with hB | hB
  · exact (always_sc hN hG (fun y => hUB ⟨y, hB⟩) r).1
  · exact always_ns hN hG hB r
theorem ok_direct {k : Nat} {a : A} (h1 : 1 ≤ k → ¬ gN T) (h2 : 2 ≤ k → ¬ (gL T .grey ∧ gCe T)) (h2' : 2 ≤ k → ¬ (gL T .grey ∧ gL T .white)) (h2'' : 2 ≤ k → ¬ (gB T false ∧ gL T .black)) (h3 : 3 ≤ k → ¬ (gL T .grey ∧ gC T .grey))
    (h4 : 4 ≤ k → ¬ (gL T .grey ∧ gB T true ∧ gOW T ∧ gL T .black)) (r : R T k a) : Sub S D a := by
  match k, h1, h2, h2', h2'', h3, h4, r with
  | 0, _, _, _, _, _, _, r => exact fun x s => absurd s (r.zero.1 x)
  | 1, h1, _, _, _, _, _, r => exact (e1 (h1 (by omega)) r).d
  | k + 2, h1, h2, h2', h2'', h3, h4, r =>
    have hN := h1 (by omega)
    have hUB := h2'' (by omega)
    rcases Classical.em (gL T .grey) with hG | hG
    · have hW : ¬ gL T .white := fun y => h2' (by omega) ⟨hG, y⟩
      match k, h2, h3, h4, r with
      | 0, h2, _, _, r => exact fun x s => (e2s hN hUB (fun y => h2 (by omega) ⟨hG, y⟩) r x s).resolve_right fun z => hW z.1
      | k + 1, _, h3, h4, r => exact ok_held (good_d (fun y => h3 (by omega) ⟨hG, y⟩) hW) hN hUB (fun h y => h4 h ⟨hG, y⟩) (by omega) r
    · exact fun x s => absurd s (none_held hN hG hUB r x)
theorem ok_covered {k : Nat} {a : A} (h1 : 1 ≤ k → ¬ gN T) (h2 : 2 ≤ k → ¬ (gL T .grey ∧ gCe T)) (h2'' : 2 ≤ k → ¬ (gB T false ∧ gL T .black)) (h3 : 3 ≤ k → ¬ (gL T .grey ∧ gC T .grey)) (h3' : 3 ≤ k → ¬ (gL T .grey ∧ gL T .white ∧ gC T .white))
    (h4 : 4 ≤ k → ¬ (gL T .grey ∧ gB T true ∧ gOW T ∧ gL T .black)) (r : R T k a) : Sub S Cov a := by
  match k, h1, h2, h2'', h3, h3', h4, r with
  | 0, _, _, _, _, _, _, r => exact fun x s => absurd s (r.zero.1 x)
  | 1, h1, _, _, _, _, _, r => exact fun x s => .of ((e1 (h1 (by omega)) r).d x s) s.1
  | k + 2, h1, h2, h2'', h3, h3', h4, r =>
    have hN := h1 (by omega)
    have hUB := h2'' (by omega)
    rcases Classical.em (gL T .grey) with hG | hG
    · match k, h2, h3, h3', h4, r with
      | 0, h2, _, _, _, r => exact fun x s => (e2s hN hUB (fun y => h2 (by omega) ⟨hG, y⟩) r x s).elim (fun z => .of z s.1) fun z => z.2
      | k + 1, _, h3, h3', h4, r =>
        obtain ⟨G, g⟩ := good_of (fun y => h3 (by omega) ⟨hG, y⟩) fun y => h3' (by omega) ⟨hG, y⟩
        exact fun x s => g.cov s.1 (ok_held g hN hUB (fun h y => h4 h ⟨hG, y⟩) (by omega) r x s)
    · exact fun x s => absurd s (none_held hN hG hUB r x)
/-- safe, of a table that doesn't rescan -/
theorem ok_safe_no {k : Nat} {a : A} (h1 : 1 ≤ k → ¬ gN T) (h2 : 2 ≤ k → ¬ gB T false) (h2' : 2 ≤ k → ¬ (gL T .grey ∧ gCe T)) (h3 : 3 ≤ k → ¬ (gL T .grey ∧ gC T .grey)) (h3' : 3 ≤ k → ¬ (gL T .grey ∧ gL T .white ∧ gC T .white))
    (h4 : 4 ≤ k → ¬ (gL T .grey ∧ gB T true ∧ gOW T)) (r : R T k a) : Sub S Cov a ∧ Sub BW CvU a := by
  match k, h1, h2, h2', h3, h3', h4, r with
  | 0, _, _, _, _, _, _, r => exact ⟨fun x s => absurd s (r.zero.1 x), fun x s => absurd s (r.zero.2 x)⟩
  | 1, h1, _, _, _, _, _, r =>
    have e := e1 (h1 (by omega)) r
    exact ⟨fun x s => .of (e.d x s) s.1, e.u⟩
  | k + 2, h1, h2, h2', h3, h3', h4, r =>
    have hN := h1 (by omega)
    have hU := h2 (by omega)
    rcases Classical.em (gL T .grey) with hG | hG
    · match k, h2', h3, h3', h4, r with
      | 0, h2', _, _, _, r =>
        rcases e2 hN hU (fun y => h2' (by omega) ⟨hG, y⟩) r with ⟨nb, sc⟩ | ⟨sd, bd, _⟩
        · exact ⟨sc, fun x b => absurd b (nb x)⟩
        · exact ⟨fun x s => .of (sd x s) s.1, fun x b => .inl (.of (bd x b).1 b.1)⟩
      | k + 1, _, h3, h3', h4, r =>
        obtain ⟨G, g⟩ := good_of (fun y => h3 (by omega) ⟨hG, y⟩) fun y => h3' (by omega) ⟨hG, y⟩
        match k, h4, r with
        | 0, _, r =>
          refine R.stage (P := fun a => Sub S G a ∧ Sub BW G a) (Q := fun a => Sub S Cov a ∧ Sub BW CvU a) (fun a r => both2 g hN hU r) ((St.s Kp.c).and (St.b Kp.cvu)) (fun a a' e d => ⟨fun x s => g.cov s.1 (good_s g hN d e.1 (fun _ => e.2) x s), fun x b => ?_⟩) r
          cases d with
          | quiet q => exact .inl (g.cov b.1 (g.step (.quiet q) b.1 (e.2 x (q.b b))))
          | into q =>
            rcases q.b b with z | ⟨h, z | ⟨u, z⟩⟩
            · exact .inl (g.cov b.1 (g.step (.into q) b.1 (e.2 x z)))
            · exact .inl (g.cov b.1 (g.step (.into q) b.1 (e.1 x z.1)))
            · exact .inr u
          | «else» q => exact .inl (g.cov b.1 (g.step (.else q) b.1 (e.2 x (q.b b))))
        | k + 1, h4, r =>
          rcases Classical.em (gB T true) with hS | hS
          · obtain ⟨p, q⟩ := both_always g hN hU (fun y => h4 (by omega) ⟨hG, hS, y⟩) r
            exact ⟨fun x s => g.cov s.1 (p x s), fun x b => .inl (g.cov b.1 (q x b))⟩
          · obtain ⟨p, q⟩ := s_nb_always g hN hU hS r
            exact ⟨fun x s => g.cov s.1 (p x s), fun x b => absurd b (q x)⟩
    · obtain ⟨p, q⟩ := always_sc hN hG hU r
      exact ⟨fun x s => absurd s (p x), fun x b => absurd b (q x)⟩
/-- safe, of a table that rescans -/
theorem ok_safe_yes {k : Nat} {a : A} (h2 : 2 ≤ k → ¬ gB T false) (h3 : 3 ≤ k → ¬ (gN T ∧ gB T true)) (h4 : 4 ≤ k → ¬ (gL T .grey ∧ gB T true ∧ gCe T)) (h4' : 4 ≤ k → ¬ (gL T .grey ∧ gB T true ∧ gOW T))
    (h5 : 5 ≤ k → ¬ (gL T .grey ∧ gB T true ∧ gC T .grey)) (h5' : 5 ≤ k → ¬ (gL T .grey ∧ gL T .white ∧ gB T true ∧ gC T .white)) (r : R T k a) : Sub BW CvH a := by
  match k, h2, h3, h4, h4', h5, h5', r with
  | 0, _, _, _, _, _, _, r => exact fun x s => absurd s (r.zero.2 x)
  | 1, _, _, _, _, _, _, r => exact e1h r
  | 2, h2, _, _, _, _, _, r =>
    have hU := h2 (by omega)
    refine R.stage (P := NB) (fun a r => e1n hU r) (St.b Kp.cvh) (fun a a' nb d => ?_) r
    cases d with
    | quiet q => exact fun x b => absurd (q.b b) (nb x)
    | into q =>
      intro x b
      rcases q.b b with z | ⟨h, _⟩
      · exact absurd z (nb x)
      · exact .inr (q.h h)
    | «else» q => exact fun x b => absurd (q.b b) (nb x)
  | k + 3, h2, h3, h4, h4', h5, h5', r =>
    have hU := h2 (by omega)
    rcases Classical.em (gB T true) with hS | hS
    · have hN : ¬ gN T := fun y => h3 (by omega) ⟨y, hS⟩
      rcases Classical.em (gL T .grey) with hG | hG
      · match k, h4, h4', h5, h5', r with
        | 0, _, _, _, _, r =>
          refine R.stage (P := Sub BW DnH) (fun a r => e2b hN hU r) (St.b Kp.cvh) (fun a a' e d => ?_) r
          cases d with
          | quiet q => exact fun x b => .inl (.of (q.d b.1 (e x (q.b b)).1) b.1)
          | into q =>
            intro x b
            rcases q.b b with z | ⟨h, _⟩
            · exact .inr (q.h (e x z).2)
            · exact .inr (q.h h)
          | «else» q => exact fun x b => .inr (q.h (e x (q.b b)).2)
        | 1, h4, h4', _, _, r => exact e4 hN hU (fun y => h4 (by omega) ⟨hG, hS, y⟩) (fun y => h4' (by omega) ⟨hG, hS, y⟩) r
        | k + 2, _, h4', h5, h5', r =>
          obtain ⟨G, g⟩ := good_of (fun y => h5 (by omega) ⟨hG, hS, y⟩) fun y => h5' (by omega) ⟨hG, y.1, hS, y.2⟩
          exact fun x b => .inl (g.cov b.1 ((both_always g hN hU (fun y => h4' (by omega) ⟨hG, hS, y⟩) r).2 x b))
      · exact fun x b => absurd b ((always_sc hN hG hU r).2 x)
    · exact fun x b => absurd b (always_nb hU hS r x)
end
end Sb
namespace Sb
/-! concrete states, their steps -/
structure Sta where
  w : Nat
  slots : List (List (Option Nat))
  col : List C
  held : List (List Nat)
  sc : List Bool
def Sta.scOf (s : Sta) (t : Nat) : Bool := s.sc.getD t false
def Sta.abs (s : Sta) : A where
  col x := s.col[x]?
  edge o u x := ∃ row, s.slots[o]? = some row ∧ row[u]? = some (some x)
  held t x := ∃ row, s.held[t]? = some row ∧ x ∈ row
  sc t := s.scOf t
structure Sta.Ok (k : Nat) (s : Sta) : Prop where
  w1 : 1 ≤ s.w
  w2 : s.w ≤ 2
  n : s.slots.length ≤ 4 + k
  lc : s.col.length = s.slots.length
  lh : s.held.length = 2
  ls : s.sc.length = 2
  row : ∀ r ∈ s.slots, r.length = s.w ∧ ∀ x, some x ∈ r → x < s.slots.length
  hb : ∀ r ∈ s.held, r.length ≤ 4 + k ∧ ∀ x ∈ r, x < s.slots.length
inductive Stp where
  | load (t h u : Nat)
  | store (t h u : Nat) (v : Option Nat)
  | drop (t x : Nat)
  | new (t : Nat)
  | visit (t : Nat)
  | scan (o : Nat)
def Stp.thr : Stp → Bool
  | .visit _ => false
  | .scan _ => false
  | _ => true
/-- a step is possible -/
def Can (s : Sta) : Stp → Prop
  | .load t h u => ∃ row srow x, s.held[t]? = some row ∧ h ∈ row ∧ s.slots[h]? = some srow ∧ srow[u]? = some (some x)
  | .store t h u v => ∃ row srow old, s.held[t]? = some row ∧ h ∈ row ∧ s.slots[h]? = some srow ∧ srow[u]? = some old ∧ ∀ y, v = some y → y ∈ row
  | .drop t x => ∃ row, s.held[t]? = some row ∧ x ∈ row
  | .new t => t < s.held.length
  | .visit t => t < s.held.length
  | .scan o => s.col[o]? = some .grey
/-- whites become grey -/
def greyed (xs : List Nat) (c : List C) : List C := xs.foldl (fun c x => if c[x]? = some .white then c.set x .grey else c) c
def colOf (s : Sta) (o : Option Nat) : Option C := o.bind fun x => s.col[x]?
/-- one of the three marks of a store -/
def shade1 (b : Bool) (o : Option Nat) (c : List C) : List C := match o with
  | some x => if b = true then c.set x .grey else c
  | none => c
def stored (T : Tab) (s : Sta) (t h : Nat) (ch : C) (old v : Option Nat) : List C :=
  shade1 (T.so (s.scOf t) ch (colOf s old) (colOf s v) .new) v (shade1 (T.so (s.scOf t) ch (colOf s old) (colOf s v) .old) old (shade1 (T.so (s.scOf t) ch (colOf s old) (colOf s v) .holder) (some h) s.col))
def After (T : Tab) (s : Sta) : Stp → Sta → Prop
  | .load t h u, s' => ∃ row srow x ch row', s.held[t]? = some row ∧ s.slots[h]? = some srow ∧ srow[u]? = some (some x) ∧ s.col[h]? = some ch ∧ (∀ y, y ∈ row' ↔ y ∈ row ∨ y = x) ∧ row'.length ≤ row.length + 1 ∧
      s' = { s with col := if s.col[x]? = some .white ∧ T.ld (s.scOf t) ch = true then s.col.set x .grey else s.col, held := s.held.set t row' }
  | .store t h u v, s' => ∃ srow old ch, s.slots[h]? = some srow ∧ srow[u]? = some old ∧ s.col[h]? = some ch ∧
      s' = { s with slots := s.slots.set h (srow.set u v), col := stored T s t h ch old v }
  | .drop t x, s' => ∃ row, s.held[t]? = some row ∧ s' = { s with held := s.held.set t (row.filter fun y => decide (y ≠ x)) }
  | .new t, s' => ∃ row, s.held[t]? = some row ∧ s' = { s with slots := s.slots ++ [List.replicate s.w none], col := s.col ++ [if T.nw (s.scOf t) = true then .black else .white], held := s.held.set t (row ++ [s.slots.length]) }
  | .visit t, s' => ∃ row, s.held[t]? = some row ∧ s' = { s with col := greyed row s.col, sc := s.sc.set t true }
  | .scan o, s' => ∃ srow, s.slots[o]? = some srow ∧ s' = { s with col := (greyed (srow.filterMap id) s.col).set o .black }

theorem greyed_len (xs : List Nat) : ∀ c, (greyed xs c).length = c.length := by
  induction xs with
  | nil => intro c; rfl
  | cons x xs ih =>
    intro c
    show (greyed xs (if c[x]? = some .white then c.set x .grey else c)).length = c.length
    rw [ih]
    split
    · rw [List.length_set]
    · rfl
theorem greyed_at (xs : List Nat) : ∀ (c : List C) (y : Nat), (y ∈ xs ∧ c[y]? = some .white → (greyed xs c)[y]? = some .grey) ∧ (¬ (y ∈ xs ∧ c[y]? = some .white) → (greyed xs c)[y]? = c[y]?) := by
  induction xs with
  | nil =>
    intro c y
    exact ⟨fun h => (by simp at h), fun _ => rfl⟩
  | cons x xs ih =>
    intro c y
    show (_ → (greyed xs (if c[x]? = some .white then c.set x .grey else c))[y]? = _) ∧ (_ → (greyed xs (if c[x]? = some .white then c.set x .grey else c))[y]? = _)
    by_cases hx : c[x]? = some .white
    · rw [if_pos hx]
      obtain ⟨i1, i2⟩ := ih (c.set x .grey) y
      have hlt : x < c.length := (List.getElem?_eq_some_iff.mp hx).1
      by_cases e : y = x
      · subst e
        have e1 : (c.set y C.grey)[y]? = some .grey := List.getElem?_set_self hlt
        have i2' := i2 (fun ⟨_, q⟩ => by rw [e1] at q; cases q)
        refine ⟨fun _ => i2'.trans e1, fun n => absurd ⟨List.mem_cons_self, hx⟩ n⟩
      · have e1 : (c.set x C.grey)[y]? = c[y]? := List.getElem?_set_ne (Ne.symm e)
        rw [e1] at i1 i2
        refine ⟨fun ⟨m, w⟩ => i1 ⟨(List.mem_cons.mp m).resolve_left e, w⟩, fun n => i2 fun ⟨m, w⟩ => n ⟨List.mem_cons_of_mem _ m, w⟩⟩
    · rw [if_neg hx]
      obtain ⟨i1, i2⟩ := ih c y
      refine ⟨fun ⟨m, w⟩ => ?_, fun n => i2 fun ⟨m, w⟩ => n ⟨List.mem_cons_of_mem _ m, w⟩⟩
      rcases List.mem_cons.mp m with e | m
      · subst e; exact absurd w hx
      · exact i1 ⟨m, w⟩
theorem shade1_len (b : Bool) (o : Option Nat) (c : List C) : (shade1 b o c).length = c.length := by
  unfold shade1
  split
  · split
    · rw [List.length_set]
    · rfl
  · rfl
theorem shade1_at (b : Bool) (o : Option Nat) (c : List C) (ho : ∀ x, o = some x → x < c.length) (y : Nat) : (b = true ∧ o = some y → (shade1 b o c)[y]? = some .grey) ∧ (¬ (b = true ∧ o = some y) → (shade1 b o c)[y]? = c[y]?) := by
  unfold shade1
  split
  · rename_i x
    by_cases hb : b = true
    · rw [if_pos hb]
      by_cases e : x = y
      · subst e
        exact ⟨fun _ => List.getElem?_set_self (ho x rfl), fun n => absurd ⟨hb, rfl⟩ n⟩
      · exact ⟨fun ⟨_, q⟩ => absurd (Option.some.inj q) e, fun _ => List.getElem?_set_ne e⟩
    · rw [if_neg hb]
      exact ⟨fun q => absurd q.1 hb, fun _ => rfl⟩
  · exact ⟨fun q => (nomatch q.2), fun _ => rfl⟩

theorem mem_set {α : Type} {l : List α} {i : Nat} {a b : α} (h : b ∈ l.set i a) : b = a ∨ b ∈ l := by
  obtain ⟨j, hj, e⟩ := List.getElem_of_mem h
  rw [List.length_set] at hj
  have e2 : (l.set i a)[j]? = some b := by rw [List.getElem?_eq_getElem (by rw [List.length_set]; exact hj), e]
  by_cases ij : i = j
  · subst ij
    rw [List.getElem?_set_self hj] at e2
    exact .inl (Option.some.inj e2).symm
  · rw [List.getElem?_set_ne ij] at e2
    exact .inr (List.mem_of_getElem? e2)

section
variable {T : Tab} {s s' : Sta} {k : Nat}
theorem Sta.Ok.mono (o : s.Ok k) {j : Nat} (h : k ≤ j) : s.Ok j :=
  ⟨o.w1, o.w2, Nat.le_trans o.n (by omega), o.lc, o.lh, o.ls, o.row, fun r hr => ⟨Nat.le_trans (o.hb r hr).1 (by omega), (o.hb r hr).2⟩⟩
theorem Sta.Ok.slot (o : s.Ok k) {x u y : Nat} {srow : List (Option Nat)} (h1 : s.slots[x]? = some srow) (h2 : srow[u]? = some (some y)) : y < s.slots.length :=
  (o.row srow (List.mem_of_getElem? h1)).2 y (List.mem_of_getElem? h2)
theorem Sta.Ok.hold (o : s.Ok k) {t y : Nat} {row : List Nat} (h1 : s.held[t]? = some row) (h2 : y ∈ row) : y < s.slots.length :=
  (o.hb row (List.mem_of_getElem? h1)).2 y h2
theorem Sta.Ok.colour (o : s.Ok k) {y : Nat} (h : y < s.slots.length) : ∃ c, s.col[y]? = some c :=
  ⟨_, List.getElem?_eq_getElem (by rw [o.lc]; exact h)⟩

/-- the steps keep states in order -/
theorem after_ok (o : s.Ok k) {p : Stp} (hc : Can s p) (ha : After T s p s') : s'.Ok (if p.thr = true then k + 1 else k) := by
  cases p with
  | load t h u =>
    obtain ⟨row, srow, x, ch, row', h1, h2, h3, h4, h5, h6, rfl⟩ := ha
    have ox := o.slot h2 h3
    refine ⟨o.w1, o.w2, Nat.le_trans o.n (by show 4 + k ≤ 4 + (k + 1); omega), ?_, by rw [List.length_set]; exact o.lh, o.ls, o.row, fun r hr => ?_⟩
    · show (if _ then _ else _ : List C).length = _
      split
      · rw [List.length_set]; exact o.lc
      · exact o.lc
    · show r.length ≤ 4 + (k + 1) ∧ _
      have o1 := o.hb row (List.mem_of_getElem? h1)
      rcases mem_set hr with e | e
      · subst e
        refine ⟨by omega, fun y hy => ?_⟩
        rcases (h5 y).mp hy with z | z
        · exact o1.2 y z
        · rw [z]; exact ox
      · have o2 := o.hb r e
        exact ⟨by omega, o2.2⟩
  | store t h u v =>
    obtain ⟨row, srow0, old0, c1, c2, c3, c4, c5⟩ := hc
    obtain ⟨srow, old, ch, h1, h2, h3, rfl⟩ := ha
    refine ⟨o.w1, o.w2, by rw [List.length_set]; exact Nat.le_trans o.n (by show 4 + k ≤ 4 + (k + 1); omega), ?_, o.lh, o.ls, fun r hr => ?_, fun r hr => ?_⟩
    · show (stored T s t h ch old v).length = _
      unfold stored
      rw [shade1_len, shade1_len, shade1_len, List.length_set]; exact o.lc
    · rw [List.length_set]
      rcases mem_set hr with e | e
      · subst e
        obtain ⟨p1, p2⟩ := o.row srow (List.mem_of_getElem? h1)
        refine ⟨by rw [List.length_set]; exact p1, fun x hx => ?_⟩
        rcases mem_set hx with z | z
        · exact o.hold c1 (c5 x z.symm)
        · exact p2 x z
      · exact o.row r e
    · show r.length ≤ 4 + (k + 1) ∧ _
      rw [List.length_set]
      have o2 := o.hb r hr
      exact ⟨by omega, o2.2⟩
  | drop t x =>
    obtain ⟨row, h1, rfl⟩ := ha
    refine ⟨o.w1, o.w2, Nat.le_trans o.n (by show 4 + k ≤ 4 + (k + 1); omega), o.lc, by rw [List.length_set]; exact o.lh, o.ls, o.row, fun r hr => ?_⟩
    show r.length ≤ 4 + (k + 1) ∧ _
    have o1 := o.hb row (List.mem_of_getElem? h1)
    rcases mem_set hr with e | e
    · subst e
      have hl := List.length_filter_le (fun y => decide (y ≠ x)) row
      exact ⟨by omega, fun y hy => o1.2 y (List.mem_filter.mp hy).1⟩
    · have o2 := o.hb r e
      exact ⟨by omega, o2.2⟩
  | new t =>
    obtain ⟨row, h1, rfl⟩ := ha
    have on := o.n
    refine ⟨o.w1, o.w2, by show (_ ++ [_]).length ≤ 4 + (k + 1); rw [List.length_append]; simp only [List.length_cons, List.length_nil]; omega, ?_, by rw [List.length_set]; exact o.lh, o.ls, fun r hr => ?_, fun r hr => ?_⟩
    · simp only [List.length_append, List.length_cons, List.length_nil]; rw [o.lc]
    · simp only [List.length_append, List.length_cons, List.length_nil]
      rcases List.mem_append.mp hr with e | e
      · obtain ⟨p1, p2⟩ := o.row r e
        exact ⟨p1, fun x hx => Nat.lt_succ_of_lt (p2 x hx)⟩
      · rw [List.mem_singleton.mp e]
        exact ⟨List.length_replicate, fun x hx => nomatch (List.mem_replicate.mp hx).2⟩
    · show r.length ≤ 4 + (k + 1) ∧ _
      simp only [List.length_append, List.length_cons, List.length_nil]
      have o1 := o.hb row (List.mem_of_getElem? h1)
      rcases mem_set hr with e | e
      · subst e
        refine ⟨by rw [List.length_append]; simp only [List.length_cons, List.length_nil]; omega, fun y hy => ?_⟩
        rcases List.mem_append.mp hy with z | z
        · exact Nat.lt_succ_of_lt (o1.2 y z)
        · rw [List.mem_singleton.mp z]; omega
      · have o2 := o.hb r e
        exact ⟨by omega, fun y hy => Nat.lt_succ_of_lt (o2.2 y hy)⟩
  | visit t =>
    obtain ⟨row, h1, rfl⟩ := ha
    exact ⟨o.w1, o.w2, o.n, by rw [greyed_len]; exact o.lc, o.lh, by rw [List.length_set]; exact o.ls, o.row, o.hb⟩
  | scan x =>
    obtain ⟨srow, h1, rfl⟩ := ha
    exact ⟨o.w1, o.w2, o.n, by rw [List.length_set, greyed_len]; exact o.lc, o.lh, o.ls, o.row, o.hb⟩

/-- the collector's steps, abstractly -/
theorem after_coll (o : s.Ok k) {p : Stp} (hp : p.thr = false) (hc : Can s p) (ha : After T s p s') : Coll s.abs s'.abs := by
  cases p with
  | visit t =>
    obtain ⟨row, h1, rfl⟩ := ha
    have ht : t < s.sc.length := by rw [o.ls, ← o.lh]; exact hc
    refine .visit t (fun x => ⟨fun ⟨w, r, e, m⟩ => ?_, fun n => ?_⟩) rfl rfl (fun u => ?_)
    · obtain rfl : r = row := Option.some.inj (e.symm.trans h1)
      exact ((greyed_at r s.col x).1 ⟨m, w⟩)
    · exact (greyed_at row s.col x).2 fun ⟨m, w⟩ => n ⟨w, row, h1, m⟩
    · show (s.sc.set t true).getD u false = true ↔ u = t ∨ s.sc.getD u false = true
      simp only [List.getD_eq_getElem?_getD]
      by_cases e : t = u
      · subst e
        rw [List.getElem?_set_self ht]
        exact ⟨fun _ => .inl rfl, fun _ => rfl⟩
      · rw [List.getElem?_set_ne e]
        exact ⟨.inr, fun z => z.resolve_left (Ne.symm e)⟩
  | scan x =>
    obtain ⟨srow, h1, rfl⟩ := ha
    have hx : x < (greyed (srow.filterMap id) s.col).length := by
      rw [greyed_len]
      exact (List.getElem?_eq_some_iff.mp hc).1
    refine .scan x (fun y => (greyed (srow.filterMap id) s.col)[y]?) hc (fun y => ⟨fun ⟨w, u, r, e, m⟩ => ?_, fun n => ?_⟩) (fun y => ?_) rfl rfl rfl
    · obtain rfl : r = srow := Option.some.inj (e.symm.trans h1)
      exact (greyed_at _ s.col y).1 ⟨List.mem_filterMap.mpr ⟨some y, List.mem_of_getElem? m, rfl⟩, w⟩
    · refine (greyed_at _ s.col y).2 fun ⟨m, w⟩ => n ⟨w, ?_⟩
      obtain ⟨c, hm, e⟩ := List.mem_filterMap.mp m
      have e' : c = some y := e
      subst e'
      obtain ⟨u, hu, e2⟩ := List.getElem_of_mem hm
      exact ⟨u, srow, h1, by rw [List.getElem?_eq_getElem hu, e2]⟩
    · show ((greyed (srow.filterMap id) s.col).set x .black)[y]? = _
      by_cases e : y = x
      · subst e
        rw [if_pos rfl, List.getElem?_set_self hx]
      · rw [if_neg e, List.getElem?_set_ne (Ne.symm e)]
  | load _ _ _ => cases hp
  | store _ _ _ _ => cases hp
  | drop _ _ => cases hp
  | new _ => cases hp

/-- held, behind a thread's own row is another -/
theorem held_set {t : Nat} {row row' : List Nat} (h1 : s.held[t]? = some row) {P : Nat → Nat → Prop} (hp : ∀ y, y ∈ row' ↔ P t y) (hq : ∀ u y, u ≠ t → ((∃ r, s.held[u]? = some r ∧ y ∈ r) ↔ P u y)) (u y : Nat) :
    (∃ r, (s.held.set t row')[u]? = some r ∧ y ∈ r) ↔ P u y := by
  have ht : t < s.held.length := (List.getElem?_eq_some_iff.mp h1).1
  by_cases e : u = t
  · subst e
    rw [List.getElem?_set_self ht]
    exact ⟨fun ⟨r, a, b⟩ => (hp y).mp (by rw [Option.some.inj a]; exact b), fun z => ⟨row', rfl, (hp y).mpr z⟩⟩
  · rw [List.getElem?_set_ne (Ne.symm e)]
    exact hq u y e
theorem after_thr (o : s.Ok k) {p : Stp} (hp : p.thr = true) (hc : Can s p) (ha : After T s p s') : Thr T s.abs s'.abs := by
  cases p with
  | load t h u =>
    obtain ⟨row0, srow0, x0, c1, c2, c3, c4⟩ := hc
    obtain ⟨row, srow, x, ch, row', h1, h2, h3, h4, h5, h6, rfl⟩ := ha
    obtain rfl : row0 = row := Option.some.inj (c1.symm.trans h1)
    have ox := o.slot h2 h3
    have hx : x < s.col.length := by rw [o.lc]; exact ox
    refine .load t h u x ch ⟨row0, c1, c2⟩ h4 ⟨srow, h2, h3⟩ (fun y => ?_) rfl (fun v y => ?_) rfl
    · show (_ → (if _ then _ else _ : List C)[y]? = _) ∧ (_ → (if _ then _ else _ : List C)[y]? = s.col[y]?)
      by_cases e : s.col[x]? = some .white ∧ T.ld (s.scOf t) ch = true
      · rw [if_pos e]
        refine ⟨fun ⟨e1, _, _⟩ => ?_, fun n => ?_⟩
        · subst e1; exact List.getElem?_set_self hx
        · exact List.getElem?_set_ne fun e1 => n ⟨e1.symm, e.1, e.2⟩
      · rw [if_neg e]
        exact ⟨fun ⟨_, a, b⟩ => absurd ⟨a, b⟩ e, fun _ => rfl⟩
    · refine held_set (P := fun v y => (∃ r, s.held[v]? = some r ∧ y ∈ r) ∨ (v = t ∧ y = x)) h1 (fun y => (h5 y).trans ⟨fun z => z.imp (fun z => ⟨row0, h1, z⟩) fun z => ⟨rfl, z⟩, fun z => z.imp (fun ⟨r, a, b⟩ => ?_) fun z => z.2⟩) (fun v y ne => ⟨.inl, fun z => z.resolve_right fun q => ne q.1⟩) v y
      rw [Option.some.inj (a.symm.trans h1)] at b; exact b
  | store t h u v =>
    obtain ⟨row, srow0, old0, c1, c2, c3, c4, c5⟩ := hc
    obtain ⟨srow, old, ch, h1, h2, h3, rfl⟩ := ha
    have hl : h < s.slots.length := o.hold c1 c2
    have hl2 : u < srow.length := (List.getElem?_eq_some_iff.mp h2).1
    have hv : ∀ x, v = some x → x < s.col.length := fun x e => by rw [o.lc]; exact o.hold c1 (c5 x e)
    have ho : ∀ x, old = some x → x < s.col.length := fun x e => by rw [o.lc]; exact o.slot h1 (e ▸ h2)
    refine .store t h u old v ch ⟨row, c1, c2⟩ (fun y e => ⟨row, c1, c5 y e⟩) h3 (fun y => ⟨fun ⟨r, a, b⟩ => ?_, fun e => ⟨srow, h1, by rw [h2, e]⟩⟩) (fun y => ?_) (fun x w y => ?_) rfl rfl
    · rw [Option.some.inj (a.symm.trans h1), h2] at b
      exact Option.some.inj b
    · show (ShSt T (s.scOf t) ch (colOf s old) (colOf s v) h old v y → (stored T s t h ch old v)[y]? = some .grey) ∧ (¬ ShSt T (s.scOf t) ch (colOf s old) (colOf s v) h old v y → (stored T s t h ch old v)[y]? = s.col[y]?)
      unfold stored ShSt
      have hh : ∀ x, some h = some x → x < s.col.length := fun x e => by rw [← Option.some.inj e, o.lc]; exact hl
      generalize T.so (s.scOf t) ch (colOf s old) (colOf s v) .holder = b1
      generalize T.so (s.scOf t) ch (colOf s old) (colOf s v) .old = b2
      generalize T.so (s.scOf t) ch (colOf s old) (colOf s v) .new = b3
      obtain ⟨p1, p2⟩ := shade1_at b1 (some h) s.col hh y
      obtain ⟨q1, q2⟩ := shade1_at b2 old (shade1 b1 (some h) s.col) (by rw [shade1_len]; exact ho) y
      obtain ⟨r1, r2⟩ := shade1_at b3 v (shade1 b2 old (shade1 b1 (some h) s.col)) (by rw [shade1_len, shade1_len]; exact hv) y
      by_cases e3 : b3 = true ∧ v = some y
      · exact ⟨fun _ => r1 e3, fun n => absurd (.inr (.inr e3)) n⟩
      · rw [r2 e3]
        by_cases e2 : b2 = true ∧ old = some y
        · exact ⟨fun _ => q1 e2, fun n => absurd (.inr (.inl e2)) n⟩
        · rw [q2 e2]
          by_cases e1 : b1 = true ∧ some h = some y
          · exact ⟨fun _ => p1 e1, fun n => absurd (.inl ⟨e1.1, (Option.some.inj e1.2).symm⟩) n⟩
          · rw [p2 e1]
            refine ⟨fun z => ?_, fun _ => rfl⟩
            rcases z with z | z | z
            · exact absurd ⟨z.1, by rw [z.2]⟩ e1
            · exact absurd z e2
            · exact absurd z e3
    · show (∃ r, (s.slots.set h (srow.set u v))[x]? = some r ∧ r[w]? = some (some y)) ↔ _
      by_cases e : x = h
      · subst e
        rw [List.getElem?_set_self hl]
        by_cases e2 : w = u
        · subst e2
          refine ⟨fun ⟨r, a, b⟩ => .inl ⟨rfl, rfl, ?_⟩, fun z => ?_⟩
          · rw [← Option.some.inj a, List.getElem?_set_self hl2] at b
            exact Option.some.inj b
          · rcases z with ⟨_, _, z⟩ | ⟨z, _⟩
            · exact ⟨_, rfl, by rw [List.getElem?_set_self hl2, z]⟩
            · exact absurd ⟨rfl, rfl⟩ z
        · refine ⟨fun ⟨r, a, b⟩ => .inr ⟨fun z => e2 z.2, srow, h1, ?_⟩, fun z => ?_⟩
          · rw [← Option.some.inj a, List.getElem?_set_ne (Ne.symm e2)] at b
            exact b
          · rcases z with ⟨_, z, _⟩ | ⟨_, r, a, b⟩
            · exact absurd z e2
            · refine ⟨_, rfl, ?_⟩
              rw [List.getElem?_set_ne (Ne.symm e2), ← Option.some.inj (a.symm.trans h1)]
              exact b
      · rw [List.getElem?_set_ne (Ne.symm e)]
        exact ⟨fun z => .inr ⟨fun q => e q.1, z⟩, fun z => (z.resolve_left fun q => e q.1).2⟩
  | drop t x =>
    obtain ⟨row, h1, rfl⟩ := ha
    refine .drop t x rfl rfl (fun v y => ?_) rfl
    refine held_set (P := fun v y => (∃ r, s.held[v]? = some r ∧ y ∈ r) ∧ ¬ (v = t ∧ y = x)) h1 (fun y => ?_) (fun v y ne => ⟨fun z => ⟨z, fun q => ne q.1⟩, fun z => z.1⟩) v y
    rw [List.mem_filter]
    refine ⟨fun ⟨a, b⟩ => ⟨⟨row, h1, a⟩, fun q => of_decide_eq_true b q.2⟩, fun ⟨⟨r, a, b⟩, q⟩ => ⟨by rw [Option.some.inj (a.symm.trans h1)] at b; exact b, decide_eq_true fun z => q ⟨rfl, z⟩⟩⟩
  | new t =>
    obtain ⟨row, h1, rfl⟩ := ha
    have nn : ∀ {x : Nat}, x < s.slots.length → x ≠ s.slots.length := fun h => Nat.ne_of_lt h
    refine .new t s.slots.length ?_ (fun x u ⟨r, a, b⟩ => ?_) (fun u x ⟨r, a, b⟩ => ?_) (fun u ⟨r, a, b⟩ => ?_) (fun x => ?_) ?_ (fun v y => ?_) rfl
    · exact List.getElem?_eq_none (by rw [o.lc]; exact Nat.le_refl _)
    · exact absurd (o.slot a b) (Nat.lt_irrefl _)
    · exact absurd (List.getElem?_eq_some_iff.mp a).1 (Nat.lt_irrefl _)
    · exact absurd (o.hold a b) (Nat.lt_irrefl _)
    · show (s.col ++ [_])[x]? = _
      by_cases e : x = s.slots.length
      · rw [if_pos e, e, ← o.lc, List.getElem?_append_right (Nat.le_refl _), Nat.sub_self]
        rfl
      · rw [if_neg e]
        by_cases l : x < s.col.length
        · rw [List.getElem?_append_left l]; rfl
        · have l1 : x - s.col.length ≠ 0 := by have := o.lc; omega
          show _ = s.col[x]?
          rw [List.getElem?_append_right (by omega), List.getElem?_eq_none (l := s.col) (by omega)]
          exact List.getElem?_eq_none (by simp only [List.length_cons, List.length_nil]; omega)
    · funext x u y
      refine propext ⟨fun ⟨r, a, b⟩ => ?_, fun ⟨r, a, b⟩ => ⟨r, ?_, b⟩⟩
      · have a' : (s.slots ++ [List.replicate s.w none])[x]? = some r := a
        by_cases l : x < s.slots.length
        · rw [List.getElem?_append_left l] at a'
          exact ⟨r, a', b⟩
        · rw [List.getElem?_append_right (by omega)] at a'
          have hr : r = List.replicate s.w none := List.mem_singleton.mp (List.mem_of_getElem? a')
          have hm := List.mem_of_getElem? b
          rw [hr] at hm
          exact nomatch (List.mem_replicate.mp hm).2
      · have l := (List.getElem?_eq_some_iff.mp a).1
        show (s.slots ++ [List.replicate s.w none])[x]? = some r
        rw [List.getElem?_append_left l]
        exact a
    · refine held_set (P := fun v y => (∃ r, s.held[v]? = some r ∧ y ∈ r) ∨ (v = t ∧ y = s.slots.length)) h1 (fun y => ?_) (fun v y ne => ⟨.inl, fun z => z.resolve_right fun q => ne q.1⟩) v y
      rw [List.mem_append, List.mem_singleton]
      refine ⟨fun z => z.imp (fun z => ⟨row, h1, z⟩) fun z => ⟨rfl, z⟩, fun z => z.imp (fun ⟨r, a, b⟩ => ?_) fun z => z.2⟩
      rw [Option.some.inj (a.symm.trans h1)] at b; exact b
  | visit _ => cases hp
  | scan _ => cases hp

/-- what the search carries: a state in order, reached with k thread steps -/
def Got (T : Tab) (k : Nat) (s : Sta) : Prop := s.Ok k ∧ R T k s.abs
theorem Got.step {p : Stp} (g : Got T k s) (hc : Can s p) (ha : After T s p s') : Got T (if p.thr = true then k + 1 else k) s' := by
  refine ⟨after_ok g.1 hc ha, ?_⟩
  cases hp : p.thr with
  | true =>
    rw [if_pos rfl]
    exact .thr g.2 (after_thr g.1 hp hc ha)
  | false =>
    rw [if_neg (by decide)]
    exact .coll g.2 (after_coll g.1 hp hc ha)
end
end Sb
namespace Sb
/-! marks, gaps, ways, and the fewest steps; the end of the mathematics -/
inductive Mk where
  | ld (k : Bool) (c : C)
  | nw (k : Bool)
  | so (k : Bool) (h : C) (o n : Option C) (w : Who)
  deriving DecidableEq
def Mk.ok : Mk → Bool
  | .so _ h o n w => match w with
    | .holder => decide (h ≠ .grey)
    | .old => decide (o = some .white)
    | .new => decide (n = some .white)
  | _ => true
def tabOf (M : List Mk) (rs : Bool) : Tab := ⟨fun k c => decide (.ld k c ∈ M), fun k => decide (.nw k ∈ M), fun k h o n w => decide (.so k h o n w ∈ M), rs⟩
inductive Gap where
  | newWhite | loadGrey | loadWhite | loadBlack | byUnscanned | overWhite | byScanned | cutGrey | cutWhite
  deriving DecidableEq
def intoBlack (k : Bool) (o : Option C) : List Mk := [.so k .black o (some .white) .new, .so k .black o (some .white) .holder]
def oldValues : List (Option C) := [none, some .grey, some .black]
def newValues : List (Option C) := [none, some .grey, some .black, some .white]
def cuts (h : C) : List Mk := [true, false].flatMap fun k => newValues.map fun n => .so k h (some .white) n .old
def closes : Gap → List (List Mk)
  | .newWhite => [[.nw true]]
  | .loadGrey => [[.ld true .grey]]
  | .loadWhite => [[.ld true .white]]
  | .loadBlack => [[.ld true .black]]
  | .overWhite => [intoBlack false (some .white)]
  | .cutGrey => (cuts .grey).map fun m => [m]
  | .cutWhite => (cuts .white).map fun m => [m]
  | .byScanned => oldValues.map (intoBlack true)
  | .byUnscanned => oldValues.map (intoBlack false)
def openM (M : List Mk) (g : Gap) : List (List Mk) := (closes g).filter fun ms => !ms.any fun m => decide (m ∈ M)
def gapB (M : List Mk) (g : Gap) : Bool := !(openM M g).isEmpty
inductive Word where
  | clean | covered | direct | safe | strong | weak
  deriving DecidableEq
open Gap in
def ways (rs : Bool) : Word → List (List Gap × Nat)
  | .clean => [([newWhite], 1), ([loadGrey], 1), ([byUnscanned, loadBlack], 2)]
  | .covered => [([newWhite], 1), ([loadGrey, cutGrey], 2), ([byUnscanned, loadBlack], 2), ([loadGrey, loadWhite, cutWhite], 3), ([loadGrey, byScanned, overWhite, loadBlack], 4)]
  | .direct => [([newWhite], 1), ([loadGrey, cutGrey], 2), ([loadGrey, loadWhite], 2), ([byUnscanned, loadBlack], 2), ([loadGrey, byScanned, overWhite, loadBlack], 4)]
  | .strong => [([byUnscanned], 1), ([newWhite, byScanned], 2), ([loadGrey, byScanned], 2)]
  | .weak => [([byUnscanned], 1), ([newWhite, byScanned], 2), ([loadGrey, byScanned, cutGrey], 3), ([loadGrey, byScanned, overWhite], 3), ([loadGrey, loadWhite, byScanned, cutWhite], 4)]
  | .safe => match rs with
    | false => [([newWhite], 1), ([byUnscanned], 2), ([loadGrey, cutGrey], 2), ([loadGrey, loadWhite, cutWhite], 3), ([loadGrey, byScanned, overWhite], 4)]
    | true => [([byUnscanned], 2), ([newWhite, byScanned], 3), ([loadGrey, byScanned, cutGrey], 4), ([loadGrey, byScanned, overWhite], 4), ([loadGrey, loadWhite, byScanned, cutWhite], 5)]
/-- (thread state, new value) of a cut -/
def entryOf : List Mk → Bool × Option C
  | .so k _ _ n _ :: _ => (k, n)
  | _ => (false, none)
def hard : Bool × Option C := (true, some .white)
def entries (M : List Mk) : List (Bool × Option C) := (openM M .cutGrey).map entryOf
def easy (M : List Mk) : List (Bool × Option C) := (entries M).filter fun e => decide (e ≠ hard)
def cutEntry (M : List Mk) : Bool × Option C := if easy M ≠ [] then (easy M).headD hard else (entries M).headD hard
def stepsOf (M : List Mk) (wy : List Gap × Nat) : Nat := wy.2 + if Gap.cutGrey ∈ wy.1 ∧ cutEntry M = hard then 1 else 0
def allOpen (M : List Mk) (wy : List Gap × Nat) : Bool := wy.1.all (gapB M)
def less (o : Option Nat) (n : Nat) : Option Nat := match o with
  | none => some n
  | some m => if n < m then some n else some m
def fewest (M : List Mk) (rs : Bool) (w : Word) : Option Nat := (ways rs w).foldl (fun acc wy => if allOpen M wy = true then less acc (stepsOf M wy) else acc) none

/-! the fold -/
theorem fold_some (M : List Mk) : ∀ (l : List (List Gap × Nat)) (m : Nat), ∃ f, l.foldl (fun acc wy => if allOpen M wy = true then less acc (stepsOf M wy) else acc) (some m) = some f ∧ f ≤ m
  | [], m => ⟨m, rfl, Nat.le_refl _⟩
  | wy :: l, m => by
    rw [List.foldl_cons]
    by_cases h : allOpen M wy = true
    · rw [if_pos h]
      unfold less
      by_cases hl : stepsOf M wy < m
      · simp only [if_pos hl]
        obtain ⟨f, e, le⟩ := fold_some M l (stepsOf M wy)
        exact ⟨f, e, by omega⟩
      · simp only [if_neg hl]
        exact fold_some M l m
    · rw [if_neg h]
      exact fold_some M l m
theorem fold_le (M : List Mk) : ∀ (l : List (List Gap × Nat)) (o : Option Nat) (wy : List Gap × Nat), wy ∈ l → allOpen M wy = true →
    ∃ f, l.foldl (fun acc wy => if allOpen M wy = true then less acc (stepsOf M wy) else acc) o = some f ∧ f ≤ stepsOf M wy
  | x :: l, o, wy, hm, h => by
    rw [List.foldl_cons]
    rcases List.mem_cons.mp hm with e | hm
    · subst e
      rw [if_pos h]
      cases o with
      | none => exact fold_some M l _
      | some m =>
        unfold less
        by_cases hl : stepsOf M wy < m
        · simp only [if_pos hl]
          exact fold_some M l _
        · simp only [if_neg hl]
          obtain ⟨f, e, le⟩ := fold_some M l m
          exact ⟨f, e, by omega⟩
    · exact fold_le M l _ wy hm h
theorem fewest_le {M : List Mk} {rs : Bool} {w : Word} {wy : List Gap × Nat} (hm : wy ∈ ways rs w) (h : allOpen M wy = true) : ∃ f, fewest M rs w = some f ∧ f ≤ stepsOf M wy := fold_le M _ none wy hm h
theorem fold_none (M : List Mk) : ∀ (l : List (List Gap × Nat)), (l.foldl (fun acc wy => if allOpen M wy = true then less acc (stepsOf M wy) else acc) none).isNone = !l.any (allOpen M)
  | [] => rfl
  | wy :: l => by
    rw [List.foldl_cons, List.any_cons]
    by_cases h : allOpen M wy = true
    · rw [if_pos h, h]
      obtain ⟨f, e, _⟩ := fold_some M l (stepsOf M wy)
      show (List.foldl _ (some (stepsOf M wy)) l).isNone = _
      rw [e]
      rfl
    · rw [if_neg h, fold_none M l]
      cases q : allOpen M wy with
      | true => exact absurd q h
      | false => rfl
theorem fewest_none (M : List Mk) (rs : Bool) (w : Word) : (fewest M rs w).isNone = !(ways rs w).any (allOpen M) := fold_none M _

/-! the gaps, in words of the table -/
section
variable {M : List Mk} {rs : Bool}
theorem isEmpty_not {α : Type} (l : List α) : (!l.isEmpty) = true ↔ ∃ x, x ∈ l := by
  cases l with
  | nil => simp
  | cons a r => simp
theorem gapB_iff (g : Gap) : gapB M g = true ↔ ∃ ms ∈ closes g, ∀ m ∈ ms, m ∉ M := by
  unfold gapB openM
  rw [isEmpty_not]
  refine ⟨fun ⟨ms, h⟩ => ?_, fun ⟨ms, h, h2⟩ => ⟨ms, List.mem_filter.mpr ⟨h, ?_⟩⟩⟩
  · obtain ⟨h1, h2⟩ := List.mem_filter.mp h
    refine ⟨ms, h1, fun m hm q => ?_⟩
    have : ms.any (fun m => decide (m ∈ M)) = true := List.any_eq_true.mpr ⟨m, hm, decide_eq_true q⟩
    rw [this] at h2; cases h2
  · cases q : ms.any (fun m => decide (m ∈ M)) with
    | false => rfl
    | true =>
      obtain ⟨m, hm, e⟩ := List.any_eq_true.mp q
      exact absurd (of_decide_eq_true e) (h2 m hm)
theorem one_gap {g : Gap} {m : Mk} (h : closes g = [[m]]) : gapB M g = true ↔ m ∉ M := by
  rw [gapB_iff, h]
  simp
theorem dec_false {p : Prop} [Decidable p] : decide p = false ↔ ¬ p := decide_eq_false_iff_not
theorem gap_n : gN (tabOf M rs) ↔ gapB M .newWhite = true := by
  rw [one_gap rfl]; exact dec_false
theorem gap_lg : gL (tabOf M rs) .grey ↔ gapB M .loadGrey = true := by rw [one_gap rfl]; exact dec_false
theorem gap_lw : gL (tabOf M rs) .white ↔ gapB M .loadWhite = true := by rw [one_gap rfl]; exact dec_false
theorem gap_lb : gL (tabOf M rs) .black ↔ gapB M .loadBlack = true := by rw [one_gap rfl]; exact dec_false
theorem into_iff (k : Bool) (o : Option C) : into (tabOf M rs) k o ↔ ∀ m ∈ intoBlack k o, m ∉ M := by
  unfold into intoBlack
  simp only [List.mem_cons, List.not_mem_nil, or_false, forall_eq_or_imp, forall_eq]
  exact and_congr dec_false dec_false
theorem gap_ow : gOW (tabOf M rs) ↔ gapB M .overWhite = true := by
  rw [gapB_iff]
  show into _ _ _ ↔ ∃ ms ∈ [intoBlack false (some .white)], _
  rw [into_iff]
  simp
theorem gap_b (k : Bool) : gB (tabOf M rs) k ↔ ∃ ms ∈ oldValues.map (intoBlack k), ∀ m ∈ ms, m ∉ M := by
  unfold gB oldValues
  rw [into_iff, into_iff, into_iff]
  simp only [List.map_cons, List.map_nil, List.mem_cons, List.not_mem_nil, or_false]
  refine ⟨fun h => ?_, fun ⟨ms, h, q⟩ => ?_⟩
  · rcases h with h | h | h
    · exact ⟨_, .inl rfl, h⟩
    · exact ⟨_, .inr (.inl rfl), h⟩
    · exact ⟨_, .inr (.inr rfl), h⟩
  · rcases h with rfl | rfl | rfl
    · exact .inl q
    · exact .inr (.inl q)
    · exact .inr (.inr q)
theorem gap_bs : gB (tabOf M rs) true ↔ gapB M .byScanned = true := by rw [gapB_iff, gap_b]; rfl
theorem gap_bu : gB (tabOf M rs) false ↔ gapB M .byUnscanned = true := by rw [gapB_iff, gap_b]; rfl
theorem mem_newValues (n : Option C) : n ∈ newValues := by
  cases n with
  | none => decide
  | some c => cases c <;> decide
theorem mem_cuts (h : C) (k : Bool) (n : Option C) : Mk.so k h (some .white) n .old ∈ cuts h := by
  unfold cuts
  refine List.mem_flatMap.mpr ⟨k, by cases k <;> decide, List.mem_map.mpr ⟨n, mem_newValues n, rfl⟩⟩
theorem of_mem_cuts {h : C} {m : Mk} (q : m ∈ cuts h) : ∃ k n, m = .so k h (some .white) n .old := by
  obtain ⟨k, _, hm⟩ := List.mem_flatMap.mp q
  obtain ⟨n, _, e⟩ := List.mem_map.mp hm
  exact ⟨k, n, e.symm⟩
theorem gap_c {g : Gap} {h : C} (hg : closes g = (cuts h).map fun m => [m]) : gC (tabOf M rs) h ↔ gapB M g = true := by
  rw [gapB_iff, hg]
  refine ⟨fun ⟨k, n, q⟩ => ⟨[.so k h (some .white) n .old], List.mem_map.mpr ⟨_, mem_cuts h k n, rfl⟩, fun m hm => ?_⟩, fun ⟨ms, hm, q⟩ => ?_⟩
  · rw [List.mem_singleton.mp hm]; exact dec_false.mp q
  · obtain ⟨m, hm2, rfl⟩ := List.mem_map.mp hm
    obtain ⟨k, n, rfl⟩ := of_mem_cuts hm2
    exact ⟨k, n, dec_false.mpr (q _ (List.mem_singleton.mpr rfl))⟩
theorem gap_cg : gC (tabOf M rs) .grey ↔ gapB M .cutGrey = true := gap_c rfl
theorem gap_cw : gC (tabOf M rs) .white ↔ gapB M .cutWhite = true := gap_c rfl
/-- an easy cut is taken where there is one -/
theorem entry_easy (h : gCe (tabOf M rs)) : cutEntry M ≠ hard := by
  obtain ⟨k, n, hn, q⟩ := h
  have hm : (k, n) ∈ easy M := by
    refine List.mem_filter.mpr ⟨List.mem_map.mpr ⟨[.so k .grey (some .white) n .old], List.mem_filter.mpr ⟨List.mem_map.mpr ⟨_, mem_cuts .grey k n, rfl⟩, ?_⟩, rfl⟩, decide_eq_true fun e => ?_⟩
    · simp only [List.any_cons, List.any_nil, Bool.or_false]
      rw [decide_eq_false (dec_false.mp q)]
      rfl
    · cases e
      exact hn ⟨rfl, rfl⟩
  unfold cutEntry
  have hne : easy M ≠ [] := List.ne_nil_of_mem hm
  rw [if_pos hne]
  cases he : easy M with
  | nil => exact absurd he hne
  | cons e r =>
    have : e ∈ easy M := by rw [he]; exact List.mem_cons_self
    exact of_decide_eq_true (List.mem_filter.mp this).2
end

/-! properties of concrete states -/
inductive Rch (a : A) : Nat → Prop where
  | held {t x : Nat} : a.held t x → Rch a x
  | next {y u x : Nat} : Rch a y → a.edge y u x → Rch a x
def Ended (rs : Bool) (s : Sta) : Prop := (∀ x : Nat, s.col[x]? ≠ some C.grey) ∧ (∀ t, t < s.sc.length → s.scOf t = true) ∧ (rs = true → ∀ t x, s.abs.held t x → ¬ W s.abs x)
def Has (rs : Bool) (s : Sta) : Word → Prop
  | .clean => NS s.abs
  | .covered => Sub S Cov s.abs
  | .direct => Sub S D s.abs
  | .safe => Ended rs s → ∀ x, Rch s.abs x → ¬ W s.abs x
  | .strong => NB s.abs
  | .weak => Sub BW Cov s.abs

section
variable {k : Nat} {s : Sta} {M : List Mk} {rs : Bool}
theorem no_cov (h : ∀ x : Nat, s.col[x]? ≠ some C.grey) {x : Nat} (q : Cov s.abs x) : False := by
  induction q with
  | direct h1 _ _ => exact h _ h1
  | next _ _ _ ih => exact ih
theorem safe_of (o : s.Ok k) (h : ∀ x : Nat, s.col[x]? ≠ some C.grey) (hh : ∀ t x, s.abs.held t x → ¬ W s.abs x) (hb : NB s.abs) {x : Nat} (q : Rch s.abs x) : ¬ W s.abs x := by
  induction q with
  | held e => exact hh _ _ e
  | @next y u x _ e ih =>
    intro w
    obtain ⟨row, e1, e2⟩ := e
    have hy : y < s.slots.length := (List.getElem?_eq_some_iff.mp e1).1
    obtain ⟨c, hc⟩ := o.colour hy
    cases c with
    | black => exact hb x ⟨w, y, u, hc, row, e1, e2⟩
    | grey => exact h y hc
    | white => exact ih hc
theorem held_lt (o : s.Ok k) {t x : Nat} (h : s.abs.held t x) : t < s.sc.length := by
  obtain ⟨row, e, _⟩ := h
  rw [o.ls, ← o.lh]
  exact (List.getElem?_eq_some_iff.mp e).1

/-- THE END: a state that k thread steps lead to and that breaks a property -/
theorem broken {w : Word} (g : Got (tabOf M rs) k s) (hb : ¬ Has rs s w) : ∃ f, fewest M rs w = some f ∧ f ≤ k := by
  refine Classical.byContradiction fun hno => hb ?_
  have no : ∀ wy ∈ ways rs w, allOpen M wy = true → k < stepsOf M wy := fun wy hm h => by
    obtain ⟨f, e, le⟩ := fewest_le hm h
    exact Nat.lt_of_not_le fun q => hno ⟨f, e, Nat.le_trans le q⟩
  have plain : ∀ gs n, (gs, n) ∈ ways rs w → Gap.cutGrey ∉ gs → n ≤ k → ¬ (∀ g ∈ gs, gapB M g = true) := fun gs n hm hc hk ha => by
    have q := no _ hm (List.all_eq_true.mpr ha)
    unfold stepsOf at q
    rw [if_neg fun z => hc z.1] at q
    have q' : k < n + 0 := q
    omega
  have any : ∀ gs n, (gs, n) ∈ ways rs w → n + 1 ≤ k → ¬ (∀ g ∈ gs, gapB M g = true) := fun gs n hm hk ha => by
    have q := no _ hm (List.all_eq_true.mpr ha)
    unfold stepsOf at q
    have q' : k < n + (if Gap.cutGrey ∈ gs ∧ cutEntry M = hard then 1 else 0) := q
    split at q' <;> omega
  have soft : ∀ gs n, (gs, n) ∈ ways rs w → gCe (tabOf M rs) → n ≤ k → ¬ (∀ g ∈ gs, gapB M g = true) := fun gs n hm he hk ha => by
    have q := no _ hm (List.all_eq_true.mpr ha)
    unfold stepsOf at q
    rw [if_neg fun z => entry_easy he z.2] at q
    have q' : k < n + 0 := q
    omega
  have ce : gCe (tabOf M rs) → gapB M .cutGrey = true := fun ⟨a, b, _, q⟩ => gap_cg.mp ⟨a, b, q⟩
  obtain ⟨o, r⟩ := g
  cases w with
  | clean =>
    refine ok_clean (T := tabOf M rs) (fun h => ⟨fun z => ?_, fun z => ?_⟩) (fun h z => ?_) r
    · exact plain [.newWhite] 1 (by simp [ways]) (by decide) h (by simpa using gap_n.mp z)
    · exact plain [.loadGrey] 1 (by simp [ways]) (by decide) h (by simpa using gap_lg.mp z)
    · exact plain [.byUnscanned, .loadBlack] 2 (by simp [ways]) (by decide) h (by simpa using ⟨gap_bu.mp z.1, gap_lb.mp z.2⟩)
  | strong =>
    refine ok_strong (T := tabOf M rs) (fun h z => ?_) (fun h => ⟨fun z => ?_, fun z => ?_⟩) r
    · exact plain [.byUnscanned] 1 (by simp [ways]) (by decide) h (by simpa using gap_bu.mp z)
    · exact plain [.newWhite, .byScanned] 2 (by simp [ways]) (by decide) h (by simpa using ⟨gap_n.mp z.1, gap_bs.mp z.2⟩)
    · exact plain [.loadGrey, .byScanned] 2 (by simp [ways]) (by decide) h (by simpa using ⟨gap_lg.mp z.1, gap_bs.mp z.2⟩)
  | weak =>
    refine ok_weak (T := tabOf M rs) (fun h z => ?_) (fun h z => ?_) (fun h z => ?_) (fun h z => ?_) (fun h z => ?_) (fun h z => ?_) r
    · exact plain [.byUnscanned] 1 (by simp [ways]) (by decide) h (by simpa using gap_bu.mp z)
    · exact plain [.newWhite, .byScanned] 2 (by simp [ways]) (by decide) h (by simpa using ⟨gap_n.mp z.1, gap_bs.mp z.2⟩)
    · exact soft [.loadGrey, .byScanned, .cutGrey] 3 (by simp [ways]) z.2.2 h (by simpa using ⟨gap_lg.mp z.1, gap_bs.mp z.2.1, ce z.2.2⟩)
    · exact plain [.loadGrey, .byScanned, .overWhite] 3 (by simp [ways]) (by decide) h (by simpa using ⟨gap_lg.mp z.1, gap_bs.mp z.2.1, gap_ow.mp z.2.2⟩)
    · exact any [.loadGrey, .byScanned, .cutGrey] 3 (by simp [ways]) h (by simpa using ⟨gap_lg.mp z.1, gap_bs.mp z.2.1, gap_cg.mp z.2.2⟩)
    · exact plain [.loadGrey, .loadWhite, .byScanned, .cutWhite] 4 (by simp [ways]) (by decide) h (by simpa using ⟨gap_lg.mp z.1, gap_lw.mp z.2.1, gap_bs.mp z.2.2.1, gap_cw.mp z.2.2.2⟩)
  | direct =>
    refine ok_direct (T := tabOf M rs) (fun h z => ?_) (fun h z => ?_) (fun h z => ?_) (fun h z => ?_) (fun h z => ?_) (fun h z => ?_) r
    · exact plain [.newWhite] 1 (by simp [ways]) (by decide) h (by simpa using gap_n.mp z)
    · exact soft [.loadGrey, .cutGrey] 2 (by simp [ways]) z.2 h (by simpa using ⟨gap_lg.mp z.1, ce z.2⟩)
    · exact plain [.loadGrey, .loadWhite] 2 (by simp [ways]) (by decide) h (by simpa using ⟨gap_lg.mp z.1, gap_lw.mp z.2⟩)
    · exact plain [.byUnscanned, .loadBlack] 2 (by simp [ways]) (by decide) h (by simpa using ⟨gap_bu.mp z.1, gap_lb.mp z.2⟩)
    · exact any [.loadGrey, .cutGrey] 2 (by simp [ways]) h (by simpa using ⟨gap_lg.mp z.1, gap_cg.mp z.2⟩)
    · exact plain [.loadGrey, .byScanned, .overWhite, .loadBlack] 4 (by simp [ways]) (by decide) h (by simpa using ⟨gap_lg.mp z.1, gap_bs.mp z.2.1, gap_ow.mp z.2.2.1, gap_lb.mp z.2.2.2⟩)
  | covered =>
    refine ok_covered (T := tabOf M rs) (fun h z => ?_) (fun h z => ?_) (fun h z => ?_) (fun h z => ?_) (fun h z => ?_) (fun h z => ?_) r
    · exact plain [.newWhite] 1 (by simp [ways]) (by decide) h (by simpa using gap_n.mp z)
    · exact soft [.loadGrey, .cutGrey] 2 (by simp [ways]) z.2 h (by simpa using ⟨gap_lg.mp z.1, ce z.2⟩)
    · exact plain [.byUnscanned, .loadBlack] 2 (by simp [ways]) (by decide) h (by simpa using ⟨gap_bu.mp z.1, gap_lb.mp z.2⟩)
    · exact any [.loadGrey, .cutGrey] 2 (by simp [ways]) h (by simpa using ⟨gap_lg.mp z.1, gap_cg.mp z.2⟩)
    · exact plain [.loadGrey, .loadWhite, .cutWhite] 3 (by simp [ways]) (by decide) h (by simpa using ⟨gap_lg.mp z.1, gap_lw.mp z.2.1, gap_cw.mp z.2.2⟩)
    · exact plain [.loadGrey, .byScanned, .overWhite, .loadBlack] 4 (by simp [ways]) (by decide) h (by simpa using ⟨gap_lg.mp z.1, gap_bs.mp z.2.1, gap_ow.mp z.2.2.1, gap_lb.mp z.2.2.2⟩)
  | safe =>
    intro ⟨c1, c2, c3⟩ x q
    cases rs with
    | false =>
      obtain ⟨p1, p2⟩ := ok_safe_no (T := tabOf M false) (k := k) (a := s.abs) (fun h z => plain [.newWhite] 1 (by simp [ways]) (by decide) h (by simpa using gap_n.mp z))
        (fun h z => plain [.byUnscanned] 2 (by simp [ways]) (by decide) h (by simpa using gap_bu.mp z))
        (fun h z => soft [.loadGrey, .cutGrey] 2 (by simp [ways]) z.2 h (by simpa using ⟨gap_lg.mp z.1, ce z.2⟩))
        (fun h z => any [.loadGrey, .cutGrey] 2 (by simp [ways]) h (by simpa using ⟨gap_lg.mp z.1, gap_cg.mp z.2⟩))
        (fun h z => plain [.loadGrey, .loadWhite, .cutWhite] 3 (by simp [ways]) (by decide) h (by simpa using ⟨gap_lg.mp z.1, gap_lw.mp z.2.1, gap_cw.mp z.2.2⟩))
        (fun h z => plain [.loadGrey, .byScanned, .overWhite] 4 (by simp [ways]) (by decide) h (by simpa using ⟨gap_lg.mp z.1, gap_bs.mp z.2.1, gap_ow.mp z.2.2⟩)) r
      refine safe_of o c1 (fun t y hd w => no_cov c1 (p1 y ⟨w, t, c2 t (held_lt o hd), hd⟩)) (fun y b => ?_) q
      rcases p2 y b with z | ⟨t, e, hd⟩
      · exact no_cov c1 z
      · have e2 : s.abs.sc t = true := c2 t (held_lt o hd)
        rw [e] at e2; cases e2
    | true =>
      have p := ok_safe_yes (T := tabOf M true) (k := k) (a := s.abs) (fun h z => plain [.byUnscanned] 2 (by simp [ways]) (by decide) h (by simpa using gap_bu.mp z))
        (fun h z => plain [.newWhite, .byScanned] 3 (by simp [ways]) (by decide) h (by simpa using ⟨gap_n.mp z.1, gap_bs.mp z.2⟩))
        (fun h z => soft [.loadGrey, .byScanned, .cutGrey] 4 (by simp [ways]) z.2.2 h (by simpa using ⟨gap_lg.mp z.1, gap_bs.mp z.2.1, ce z.2.2⟩))
        (fun h z => plain [.loadGrey, .byScanned, .overWhite] 4 (by simp [ways]) (by decide) h (by simpa using ⟨gap_lg.mp z.1, gap_bs.mp z.2.1, gap_ow.mp z.2.2⟩))
        (fun h z => any [.loadGrey, .byScanned, .cutGrey] 4 (by simp [ways]) h (by simpa using ⟨gap_lg.mp z.1, gap_bs.mp z.2.1, gap_cg.mp z.2.2⟩))
        (fun h z => plain [.loadGrey, .loadWhite, .byScanned, .cutWhite] 5 (by simp [ways]) (by decide) h (by simpa using ⟨gap_lg.mp z.1, gap_lw.mp z.2.1, gap_bs.mp z.2.2.1, gap_cw.mp z.2.2.2⟩)) r
      refine safe_of o c1 (c3 rfl) (fun y b => ?_) q
      rcases p y b with z | ⟨t, hd⟩
      · exact no_cov c1 z
      · exact c3 rfl t y hd b.1
end
end Sb
/-! states, marks, steps as data; their equality; their shape -/
namespace Sr
open PySem PySem.Spec PyProof.Rows L2 Dl Sb
def cS : C → Str
  | .black => "black"
  | .grey => "grey"
  | .white => "white"
def kS : Bool → Str
  | true => "scanned"
  | false => "unscanned"
def ocS : Option C → Str
  | none => "none"
  | some c => cS c
def whoS : Who → Str
  | .holder => "holder"
  | .old => "old"
  | .new => "new"
def mkS : Mk → List Str
  | .ld k c => ["load", kS k, cS c]
  | .nw k => ["new", kS k]
  | .so k h o n w => ["store", kS k, cS h, ocS o, ocS n, whoS w]
def cD (c : C) : PyData := .str (cS c)
def nD (n : Nat) : PyData := .int n
def oD : Option Nat → PyData
  | none => .none
  | some x => .int x
def rowD (r : List (Option Nat)) : PyData := .tuple (r.map oD)
def hrowD (r : List Nat) : PyData := .tuple (r.map nD)
def mkD (m : Mk) : PyData := .tuple ((mkS m).map .str)
def staD (s : Sta) : PyData := .tuple [.int s.w, .tuple (s.slots.map rowD), .tuple (s.col.map cD), .tuple (s.held.map hrowD), .tuple (s.sc.map .bool)]
def tabD (M : List Mk) (rs : Bool) : PyData := .tuple [.tuple (M.map mkD), .bool rs]
def stpD : Stp → PyData
  | .load t h u => .tuple [.str "load", nD t, nD h, nD u]
  | .store t h u v => .tuple [.str "store", nD t, nD h, nD u, oD v]
  | .drop t x => .tuple [.str "drop", nD t, nD x]
  | .new t => .tuple [.str "new", nD t]
  | .visit t => .tuple [.str "visit", nD t]
  | .scan o => .tuple [.str "scan", nD o]
def wS : Word → Str
  | .clean => "clean"
  | .covered => "covered"
  | .direct => "direct"
  | .safe => "safe"
  | .strong => "strong"
  | .weak => "weak"
/-! ### equality -/
theorem eqv_str (x y : Str) : PyData.eqv (.str x) (.str y) = decide (x = y) := by
  show (x == y) = decide (x = y)
  by_cases h : x = y
  · subst h; simp
  · simp [h]
theorem eqv_int (x y : Int) : PyData.eqv (.int x) (.int y) = decide (x = y) := by
  show (x == y) = decide (x = y)
  by_cases h : x = y
  · subst h; simp
  · simp [h]
theorem eqvAll_str : ∀ xs ys : List Str, PyData.eqvAll (xs.map .str) (ys.map .str) = decide (xs = ys)
  | [], [] => rfl
  | x :: xs, y :: ys => by
    show (PyData.eqv (.str x) (.str y) && PyData.eqvAll (xs.map .str) (ys.map .str)) = _
    rw [eqv_str, eqvAll_str xs ys]
    by_cases h : x = y <;> by_cases g : xs = ys <;> simp [h, g]
  | [], y :: ys => by
    show false = _
    simp
  | x :: xs, [] => by
    show false = _
    simp
theorem cS_inj {c d : C} (h : cS c = cS d) : c = d := by cases c <;> cases d <;> first | rfl | exact absurd h (by decide)
theorem kS_inj {c d : Bool} (h : kS c = kS d) : c = d := by cases c <;> cases d <;> first | rfl | exact absurd h (by decide)
theorem whoS_inj {c d : Who} (h : whoS c = whoS d) : c = d := by cases c <;> cases d <;> first | rfl | exact absurd h (by decide)
theorem ocS_inj {c d : Option C} (h : ocS c = ocS d) : c = d := by
  cases c with
  | none => cases d with
    | none => rfl
    | some d => cases d <;> exact absurd h (by decide)
  | some c => cases d with
    | none => cases c <;> exact absurd h (by decide)
    | some d => exact congrArg some (cS_inj h)
theorem wS_inj {c d : Word} (h : wS c = wS d) : c = d := by cases c <;> cases d <;> first | rfl | exact absurd h (by decide)
theorem eqv_w (c d : Word) : PyData.eqv (.str (wS c)) (.str (wS d)) = decide (c = d) := by
  rw [eqv_str]
  by_cases h : c = d
  · subst h; simp
  · rw [decide_eq_false h, decide_eq_false fun q => h (wS_inj q)]
theorem mkS_inj {m n : Mk} (h : mkS m = mkS n) : m = n := by
  cases m with
  | ld k c => cases n with
    | ld k' c' =>
      simp only [mkS, List.cons.injEq, and_true, true_and] at h
      rw [kS_inj h.1, cS_inj h.2]
    | nw k' => exact absurd (congrArg List.length h) (by simp [mkS])
    | so _ _ _ _ _ => exact absurd (congrArg List.length h) (by simp [mkS])
  | nw k => cases n with
    | ld k' c' => exact absurd (congrArg List.length h) (by simp [mkS])
    | nw k' =>
      simp only [mkS, List.cons.injEq, and_true, true_and] at h
      rw [kS_inj h]
    | so _ _ _ _ _ => exact absurd (congrArg List.length h) (by simp [mkS])
  | so k a o v w => cases n with
    | ld k' c' => exact absurd (congrArg List.length h) (by simp [mkS])
    | nw k' => exact absurd (congrArg List.length h) (by simp [mkS])
    | so k' a' o' v' w' =>
      simp only [mkS, List.cons.injEq, and_true, true_and] at h
      obtain ⟨h1, h2, h3, h4, h5⟩ := h
      rw [kS_inj h1, cS_inj h2, ocS_inj h3, ocS_inj h4, whoS_inj h5]
theorem eqv_mk (m n : Mk) : PyData.eqv (mkD m) (mkD n) = decide (m = n) := by
  show PyData.eqvAll ((mkS m).map .str) ((mkS n).map .str) = _
  rw [eqvAll_str]
  by_cases h : m = n
  · subst h; simp
  · rw [decide_eq_false h, decide_eq_false fun q => h (mkS_inj q)]
theorem any_mk (M : List Mk) (m : Mk) : (M.map mkD).any (fun z => PyData.eqv z (mkD m)) = decide (m ∈ M) := by
  rw [List.any_map]
  have e : ((fun z => PyData.eqv z (mkD m)) ∘ mkD) = fun n => decide (n = m) := funext fun n => eqv_mk n m
  rw [e]
  by_cases h : m ∈ M
  · rw [decide_eq_true h]
    exact List.any_eq_true.mpr ⟨m, h, decide_eq_true rfl⟩
  · rw [decide_eq_false h]
    refine List.any_eq_false.mpr fun n hn => ?_
    simp only [decide_eq_true_eq]
    intro e
    exact h (e ▸ hn)
theorem any_nat (xs : List Nat) (x : Nat) : (xs.map nD).any (fun z => PyData.eqv z (nD x)) = decide (x ∈ xs) := by
  rw [List.any_map]
  have e : ((fun z => PyData.eqv z (nD x)) ∘ nD) = fun n => decide (n = x) := funext fun n => by
    show PyData.eqv (.int n) (.int x) = _
    rw [eqv_int]
    by_cases h : n = x
    · subst h; simp
    · simp [h]; omega
  rw [e]
  by_cases h : x ∈ xs
  · rw [decide_eq_true h]
    exact List.any_eq_true.mpr ⟨x, h, decide_eq_true rfl⟩
  · rw [decide_eq_false h]
    refine List.any_eq_false.mpr fun n hn => ?_
    simp only [decide_eq_true_eq]
    intro e
    exact h (e ▸ hn)
/-! ### shape -/
def Shd (n : Nat) (d : PyData) : Prop := d.canLay0 = true ∧ d.depth ≤ n
theorem shd_mono {n m : Nat} {d : PyData} (h : Shd n d) (l : n ≤ m) : Shd m d := ⟨h.1, Nat.le_trans h.2 l⟩
theorem shd_all {n : Nat} : ∀ {ds : List PyData}, (∀ d ∈ ds, Shd n d) → PyData.canLayAll0 ds = true ∧ PyData.depthAll ds ≤ n
  | [], _ => ⟨by simp only [PyData.canLayAll0], by simp only [PyData.depthAll]; exact Nat.zero_le _⟩
  | d :: ds, h => by
    obtain ⟨h1, h2⟩ := shd_all fun e he => h e (List.mem_cons_of_mem _ he)
    obtain ⟨h3, h4⟩ := h d List.mem_cons_self
    refine ⟨by simp only [PyData.canLayAll0]; rw [h3, h1]; rfl, ?_⟩
    simp only [PyData.depthAll]
    omega
theorem shd_tup {n : Nat} {ds : List PyData} (h : ∀ d ∈ ds, Shd n d) : Shd (n + 1) (.tuple ds) := by
  obtain ⟨h1, h2⟩ := shd_all h
  refine ⟨by simp only [PyData.canLay0]; exact h1, ?_⟩
  simp only [PyData.depth]
  omega
theorem shd_lst {n : Nat} {ds : List PyData} (h : ∀ d ∈ ds, Shd n d) : Shd (n + 1) (.list ds) := by
  obtain ⟨h1, h2⟩ := shd_all h
  refine ⟨by simp only [PyData.canLay0]; exact h1, ?_⟩
  simp only [PyData.depth]
  omega
theorem shd_int (i : Int) : Shd 1 (.int i) := ⟨by simp only [PyData.canLay0], by simp only [PyData.depth]; omega⟩
theorem shd_bl (i : Bool) : Shd 1 (.bool i) := ⟨by simp only [PyData.canLay0], by simp only [PyData.depth]; omega⟩
theorem shd_non : Shd 1 .none := ⟨by simp only [PyData.canLay0], by simp only [PyData.depth]; omega⟩
theorem shd_str {x : Str} (h : PyData.strOk x = true) : Shd 1 (.str x) := ⟨by simp only [PyData.canLay0]; exact h, by simp only [PyData.depth]; omega⟩
theorem shaped_of {n : Nat} {d : PyData} (h : Shd n d) (l : n ≤ 64) : SeqAt.shaped d = true := by
  unfold SeqAt.shaped
  rw [h.1, decide_eq_true (Nat.le_trans h.2 l)]
  rfl
theorem shd_c (c : C) : Shd 1 (cD c) := shd_str (by cases c <;> decide +kernel)
theorem shd_n (c : Nat) : Shd 1 (nD c) := shd_int _
theorem shd_o (o : Option Nat) : Shd 1 (oD o) := by
  cases o with
  | none => exact shd_non
  | some x => exact shd_int _
theorem shd_map {ι : Type} {n : Nat} {f : ι → PyData} (xs : List ι) (h : ∀ x, Shd n (f x)) : ∀ d ∈ xs.map f, Shd n d := fun d hd => by
  obtain ⟨x, _, rfl⟩ := List.mem_map.mp hd
  exact h x
theorem mkS_ok (m : Mk) : ∀ x ∈ mkS m, PyData.strOk x = true := by
  have hk : ∀ k, PyData.strOk (kS k) = true := fun k => by cases k <;> decide +kernel
  have hc : ∀ k, PyData.strOk (cS k) = true := fun k => by cases k <;> decide +kernel
  have ho : ∀ k, PyData.strOk (ocS k) = true := fun k => by
    cases k with
    | none => decide +kernel
    | some c => exact hc c
  have hw : ∀ k, PyData.strOk (whoS k) = true := fun k => by cases k <;> decide +kernel
  cases m with
  | ld k c =>
    intro x hx
    simp only [mkS, List.mem_cons, List.not_mem_nil, or_false] at hx
    rcases hx with rfl | rfl | rfl
    · decide +kernel
    · exact hk k
    · exact hc c
  | nw k =>
    intro x hx
    simp only [mkS, List.mem_cons, List.not_mem_nil, or_false] at hx
    rcases hx with rfl | rfl
    · decide +kernel
    · exact hk k
  | so k h o n w =>
    intro x hx
    simp only [mkS, List.mem_cons, List.not_mem_nil, or_false] at hx
    rcases hx with rfl | rfl | rfl | rfl | rfl | rfl
    · decide +kernel
    · exact hk k
    · exact hc h
    · exact ho o
    · exact ho n
    · exact hw w
theorem shd_mk (m : Mk) : Shd 2 (mkD m) := shd_tup fun d hd => by
  obtain ⟨x, hx, rfl⟩ := List.mem_map.mp hd
  exact shd_str (mkS_ok m x hx)
theorem shd_row (r : List (Option Nat)) : Shd 2 (rowD r) := shd_tup (shd_map r shd_o)
theorem shd_hrow (r : List Nat) : Shd 2 (hrowD r) := shd_tup (shd_map r shd_n)
theorem shd_sta (s : Sta) : Shd 4 (staD s) := shd_tup fun d hd => by
  simp only [List.mem_cons, List.not_mem_nil, or_false] at hd
  rcases hd with rfl | rfl | rfl | rfl | rfl
  · exact shd_mono (shd_int _) (by decide +kernel)
  · exact shd_tup (shd_map _ shd_row)
  · exact shd_mono (shd_tup (shd_map _ shd_c)) (by decide +kernel)
  · exact shd_tup (shd_map _ shd_hrow)
  · exact shd_mono (shd_tup (shd_map _ shd_bl)) (by decide +kernel)
theorem shd_w (w : Word) : Shd 1 (.str (wS w)) := shd_str (by cases w <;> decide +kernel)
end Sr
/-! the walk: small defs -/
namespace Sr
open PySem PySem.Spec PyProof.Rows L2 Dl Sb
structure Bi (mg : Str → Option Value) : Prop where
  len : mg "len" = none
  list : mg "list" = none
  tuple : mg "tuple" = none
  sorted : mg "sorted" = none
  set : mg "set" = none
  any : mg "any" = none
  all : mg "all" = none
  int : mg "int" = none
  range : mg "range" = none
  enumerate : mg "enumerate" = none
  zip : mg "zip" = none
  isinstance : mg "isinstance" = none
  str : mg "str" = none
  abs : mg "abs" = none
  repr : mg "repr" = none
variable {P : Program} {w : World} {K : PySem.W.Frag} {mg : Str → Option Value} {base : Heap}
theorem hu65 {k : Nat} {A : Around} (h : Room k A) : A.units + 65 < cLine := by have := h.un; omega
theorem hu64 {k : Nat} {A : Around} (h : Room k A) : A.units + 64 < cLine := by have := h.un; omega
theorem sh_str {x : Str} (h : PyData.strOk x = true) : SeqAt.shaped (.str x) = true := shaped_of (shd_str h) (by decide)
/-- a row with one place changed -/
def withD (ds : List PyData) (n : Nat) (d : PyData) : List PyData := ds.take n ++ [d] ++ ds.drop (n + 1)
abbrev FWith (P : Program) (w : World) (K : PySem.W.Frag) (mg : Str → Option Value) (base : Heap) : Prop :=
  FnD P w K mg base 1 "_law_with" (fun i : List PyData × Nat × PyData => i.1.length ≤ 1000) (fun i => [Dat K (.tuple i.1), Dat K (.int (i.2.1 : Nat)), Dat K i.2.2]) (fun i => Dat K (.tuple (withD i.1 i.2.1 i.2.2)))
theorem f_with (D : DefAt K mg "_law_with" s_l_with) : FWith P w K mg base :=
  def_D D S_l_with (fun f fd F => F.binds fun _ _ _ _ _ _ us hl => match us, hl with | [_, _, _], _ => rfl) (fun _ => inferInstance) (fun _ => rfl) fun f cdv A outer s H E hr i hi => by
    refine ss_one (s_ret (e_is (e_cat (e_cat (e_slTo (e_v 0) (e_v 1) (by omega)) (e_tup (d_cons (e_v 2) d_nil)) (by simp; omega)) (e_slFrom (e_v 0) (e_add (e_v 1) e_int) (by omega)) (by simp; omega)) ?_))
    rfl
theorem withD_set {ds : List PyData} {n : Nat} (d : PyData) (h : n < ds.length) : withD ds n d = ds.set n d := by
  unfold withD
  rw [List.set_eq_take_append_cons_drop, if_pos h]
  simp
abbrev FKind (P : Program) (w : World) (K : PySem.W.Frag) (mg : Str → Option Value) (base : Heap) : Prop :=
  FnD P w K mg base 1 "_law_kind" (fun i : Sta × Nat => i.2 < i.1.sc.length) (fun i => [Dat K (staD i.1), Dat K (nD i.2)]) (fun i => Dat K (.str (kS (i.1.scOf i.2))))
theorem f_kind (D : DefAt K mg "_law_kind" s_l_kind) : FKind P w K mg base :=
  def_D D S_l_kind (fun f fd F => F.binds fun _ _ _ _ _ _ us hl => match us, hl with | [_, _], _ => rfl) (fun _ => inferInstance) (fun _ => rfl) fun f cdv A outer s H E hr i hi => by
    have hs : (i.1.sc.map PyData.bool)[((i.2 : Nat) : Int).toNat]? = some (.bool (i.1.scOf i.2)) := by
      rw [Int.toNat_natCast, List.getElem?_map, List.getElem?_eq_getElem hi]
      unfold Sta.scOf
      rw [List.getD_eq_getElem?_getD, List.getElem?_eq_getElem hi]
      rfl
    exact ss_one (s_ret (e_if (t_val (e_ixT (e_ixT (e_v 0) e_int (by decide) rfl) (e_v 1) (by omega) hs)) (fun h => e_is e_str (by rw [h]; rfl)) (fun h => e_is e_str (by rw [h]; rfl))))
/-! ### ended -/
def endedB (rs : Bool) (s : Sta) : Bool := !((s.col.map cD).any (fun z => PyData.eqv z (.str "grey")) || !s.sc.all id) && !(s.held.any fun row => rs && row.any fun x => decide (s.col[x]? = some .white))
abbrev FEnded (P : Program) (w : World) (K : PySem.W.Frag) (mg : Str → Option Value) (base : Heap) : Prop :=
  FnD P w K mg base 1 "_law_ended" (fun i : Bool × Sta => i.2.Ok 5) (fun i => [Dat K (.bool i.1), Dat K (staD i.2)]) (fun i => Dat K (.bool (endedB i.1 i.2)))
theorem eqv_c (c d : C) : PyData.eqv (cD c) (cD d) = decide (c = d) := by
  unfold cD
  rw [eqv_str]
  by_cases h : c = d
  · subst h; simp
  · rw [decide_eq_false h, decide_eq_false fun q => h (cS_inj q)]
theorem col_at {s : Sta} {k x : Nat} (o : s.Ok k) (h : x < s.slots.length) : ∃ c, s.col[x]? = some c ∧ (s.col.map cD)[((x : Nat) : Int).toNat]? = some (cD c) := by
  obtain ⟨c, hc⟩ := o.colour h
  exact ⟨c, hc, by rw [Int.toNat_natCast, List.getElem?_map, hc]; rfl⟩
theorem f_ended (B : Bi mg) (D : DefAt K mg "_law_ended" s_l_ended) : FEnded P w K mg base :=
  def_D D S_l_ended (fun f fd F => F.binds fun _ _ _ _ _ _ us hl => match us, hl with | [_, _], _ => rfl) (fun _ => inferInstance) (fun _ => rfl) fun f cdv A outer s H E hr ⟨rs, t⟩ o => by
    have hu := hu65 hr
    have hu' := hu64 hr
    have o : t.Ok 5 := o
    refine ss_ifr (PW.pt (w_or (t_inT hu e_str (e_ixT (d := .tuple (t.col.map cD)) (e_v 1) e_int (by decide) rfl) (sh_str (by decide +kernel)) (shaped_of (shd_tup (shd_map _ shd_c)) (by decide))) fun _ => w_or1 (t_not (t_val (e_all (p := id) (xs := t.sc) rfl B.all (e_lsdT (e_trk (e_list B.list (e_sqd (e_ixT (d := .tuple (t.sc.map .bool)) (e_v 1) e_int (by decide) rfl)))))))))) (fun hc => ss_one (s_ret (e_is e_bl ?_))) fun hc => ?_
    · unfold endedB
      rw [hc]
      rfl
    refine ss_forr (s_forRA (α := Unit) (p := fun row => rs && row.any fun x => decide (t.col[x]? = some .white)) (fun _ _ => [.is (Dat K (.bool rs)), .is (Dat K (staD t)), .no, .no]) (fun _ _ => True) () (xs := t.held) (enc := hrowD) rfl (i_tup (e_ixT (d := .tuple (t.held.map hrowD)) (e_v 1) e_int (by decide) rfl)) (pg_name (i := 2) S_l_ended.nd rfl (.inl rfl)) (fun x _ => tg_name 2 _) ?_ trivial ?_ PassesOwn.never) ?_
    · exact .same (.same (.same (.same .nil)))
    · intro i row _ hrow _
      have hb : ∀ x ∈ row, x < t.slots.length := (o.hb row (List.mem_of_getElem? hrow)).2
      have hl : row.length ≤ 9 := (o.hb row (List.mem_of_getElem? hrow)).1
      refine ss_one ?_
      refine s_if (c := rs && row.any fun x => decide (t.col[x]? = some .white)) (PW.pt (w_and (t_val (e_v 0)) fun _ => w_and1 (t_val (e_any (p := fun x => decide (t.col[x]? = some .white)) (xs := row) rfl B.any (e_lsdT (e_trk (e_lc0 (own := [("_law_one", 3)]) (enc := nD) rfl S_l_ended.nd (i_tup (e_v 2)) (blkOk_by (N := N_l_ended) (sc := defScope s_l_ended) (by decide +kernel)) (fun _ _ _ _ _ => pg_name (i := 3) S_l_ended.nd rfl (.inl rfl)) (fun x _ => tg_name 3 _) (by simp) (fun x hx s H C cl fp => ?_) (by omega)))))))) (fun h => ?_) (fun h => ?_)
      · obtain ⟨c, hc1, hc2⟩ := col_at o (hb x hx)
        refine e_is (e_eq hu' (e_ixT (e_ixT (d := .tuple (t.col.map cD)) (e_v 1) e_int (by decide) rfl) (e_v 3) (by omega) hc2) e_str (shaped_of (shd_c c) (by decide)) (sh_str (by decide +kernel)) (nomark _)) ?_
        rw [show PyData.str "white" = cD .white from rfl, eqv_c, hc1]
        simp
      · rw [if_pos h]
        exact ss_one (s_ret (e_is e_bl (by unfold endedB; rw [hc, List.any_eq_true.mpr ⟨row, List.mem_of_getElem? hrow, h⟩]; rfl)))
      · rw [if_neg (by rw [h]; decide)]
        exact ss_wk ss_nil fun e he => ⟨_, he ▸ .same (.same (.drop (.same .nil))), (), trivial, WkL.refl _⟩
    · intro hx e ⟨_, _, w⟩
      refine ss_pre w (ss_one (s_ret (e_is e_bl ?_)))
      unfold endedB
      rw [hc, hx]
      rfl
end Sr
/-! plain laws of the searches: n rounds reach all that is covered -/
namespace Sb
theorem nodup_bound : ∀ (n : Nat) (ms : List Nat), ms.Nodup → (∀ x ∈ ms, x < n) → ms.length ≤ n
  | 0, [], _, _ => Nat.le_refl _
  | 0, x :: _, _, h => absurd (h x List.mem_cons_self) (Nat.not_lt_zero _)
  | n + 1, ms, hd, h => by
    have ih := nodup_bound n (ms.erase n) (hd.erase n) fun x hx => by
      have h1 := h x (List.mem_of_mem_erase hx)
      have h2 : x ≠ n := fun e => by
        subst e
        exact (hd.mem_erase_iff.mp hx).1 rfl
      omega
    have hl : ms.length ≤ (ms.erase n).length + 1 := by
      rw [List.length_erase]
      split <;> omega
    omega
theorem nodup_full {n : Nat} {ms : List Nat} (hd : ms.Nodup) (h : ∀ x ∈ ms, x < n) (hl : n ≤ ms.length) {x : Nat} (hx : x < n) : x ∈ ms :=
  Classical.byContradiction fun hn => by
    have := nodup_bound n (x :: ms) (List.nodup_cons.mpr ⟨hn, hd⟩) (fun y hy => by
      rcases List.mem_cons.mp hy with z | z
      · rw [z]; exact hx
      · exact h y z)
    rw [List.length_cons] at this
    omega
/-- what n rounds have found -/
def Rounds (s : Sta) (i : Nat) (f : List Nat) : Prop := (∀ x ∈ f, x < s.slots.length) ∧ ((∀ x, Cov s.abs x → x ∈ f) ∨ ∃ l : List Nat, l.Nodup ∧ i ≤ l.length ∧ ∀ x ∈ l, x ∈ f)
theorem rounds_zero (s : Sta) : Rounds s 0 [] := ⟨fun x h => (by cases h), .inr ⟨[], List.nodup_nil, Nat.le_refl _, fun x h => (by cases h)⟩⟩
/-- one round -/
def Round (s : Sta) (f f' : List Nat) : Prop := (∀ x ∈ f, x ∈ f') ∧ (∀ x ∈ f', x < s.slots.length) ∧ ∀ y u x, (s.abs.col y = some .grey ∨ y ∈ f) → s.abs.edge y u x → W s.abs x → x ∈ f'
theorem rounds_succ {s : Sta} {i : Nat} {f f' : List Nat} (h : Rounds s i f) (r : Round s f f') : Rounds s (i + 1) f' := by
  obtain ⟨hb, h⟩ := h
  obtain ⟨r1, r2, r3⟩ := r
  refine ⟨r2, ?_⟩
  rcases h with h | ⟨l, hd, hl, hs⟩
  · exact .inl fun x c => r1 x (h x c)
  · by_cases hn : ∃ x, x ∈ f' ∧ x ∉ f
    · obtain ⟨x, hx, hx2⟩ := hn
      refine .inr ⟨x :: l, List.nodup_cons.mpr ⟨fun z => hx2 (hs x z), hd⟩, by rw [List.length_cons]; omega, fun y hy => ?_⟩
      rcases List.mem_cons.mp hy with z | z
      · rw [z]; exact hx
      · exact r1 y (hs y z)
    · have sub : ∀ x, x ∈ f' → x ∈ f := fun x hx => Classical.byContradiction fun z => hn ⟨x, hx, z⟩
      refine .inl fun x c => ?_
      have hx : x ∈ f := by
        induction c with
        | direct h1 h2 h3 => exact sub _ (r3 _ _ _ (.inl h1) h2 h3)
        | next h1 h2 h3 ih => exact sub _ (r3 _ _ _ (.inr ih) h2 h3)
      exact r1 x hx
theorem cov_lt {s : Sta} {k : Nat} (o : s.Ok k) {x : Nat} (h : Cov s.abs x) : x < s.slots.length := by
  have hw : W s.abs x := by
    cases h with
    | direct _ _ h => exact h
    | next _ _ h => exact h
  have : s.col[x]? = some .white := hw
  rw [← o.lc]
  exact (List.getElem?_eq_some_iff.mp this).1
theorem rounds_all {s : Sta} {k : Nat} (o : s.Ok k) {f : List Nat} (h : Rounds s s.slots.length f) {x : Nat} (c : Cov s.abs x) : x ∈ f := by
  obtain ⟨hb, h⟩ := h
  rcases h with h | ⟨l, hd, hl, hs⟩
  · exact h x c
  · exact hs x (nodup_full hd (fun y hy => hb y (hs y hy)) hl (cov_lt o c))
end Sb
/-! the walk: reached, covered -/
namespace Sr
open PySem PySem.Spec PyProof.Rows L2 Dl Sb
section
variable {X : Cx} {K : PySem.W.Frag} {es : List Ent} {e : Expr} {pos pos2 p2 p3 : Pos}
theorem ts_one {c : Expr} {b : Bool} (h : PT X c (tCanT K es b)) : PTs X [c] (tCanT K es b) := ⟨fun pins s σ H Q I q => (pts_one h).run pins s σ H Q I q⟩
theorem nats_int (ns : List Nat) : ns.map nD = (ns.map fun n => ((n : Nat) : Int)).map PyData.int := by rw [List.map_map]; rfl
theorem e_ssNat {ns : List Nat} (hc : X.calm = true) (hu : X.A.units + 64 < cLine) (hm : X.mg "sorted" = none) (hm2 : X.mg "set" = none) (h : PE X e (tCan X.K es (Sqd X.K (ns.map nD)))) (hn : ns.length < 4000) (hg : Gl X "sorted" := by rfl) (hg2 : Gl X "set" := by rfl)
    (na : starEach [e] X.env = (false, eval e X.env) :: starEach [] X.env := by rfl) :
    PE X (.Call (.Name "sorted" p2) [.Call (.Name "set" p3) [e] [] pos] [] pos2) (tCanL X.K es fun ds => ∃ ms : List Nat, (∀ n, n ∈ ms ↔ n ∈ ns) ∧ ms.length ≤ ns.length ∧ ms.Nodup ∧ ds = ms.map nD) := by
  rw [nats_int] at h
  refine pe_imp (e_ssInt hc hu hm hm2 h (by rw [List.length_map]; exact hn) hg hg2 na) fun σ H Q ⟨F0, H0, F, S, k⟩ => ⟨F0, H0, F, S, fun p vs ds F' H' g ⟨ms, h1, h2, h3, h4⟩ => k p vs ds F' H' g ?_⟩
  have all : ∀ z ∈ ms, ∃ n : Nat, z = n ∧ n ∈ ns := fun z hz => by
    obtain ⟨n, hn, e⟩ := List.mem_map.mp ((h1 z).mp hz)
    exact ⟨n, e.symm, hn⟩
  have back : ms = (ms.map Int.toNat).map fun n => ((n : Nat) : Int) := by
    rw [List.map_map]
    refine (List.map_id ms).symm.trans (List.map_congr_left fun z hz => ?_)
    obtain ⟨n, rfl, _⟩ := all z hz
    rfl
  refine ⟨ms.map Int.toNat, fun n => ⟨fun hn => ?_, fun hn => ?_⟩, by rw [List.length_map]; rw [List.length_map] at h2; exact h2, ?_, by rw [h4, nats_int, ← back]⟩
  · obtain ⟨z, hz, e⟩ := List.mem_map.mp hn
    obtain ⟨m, rfl, hm⟩ := all z hz
    have e : m = n := e
    exact e ▸ hm
  · exact List.mem_map.mpr ⟨(n : Int), (h1 _).mpr (List.mem_map.mpr ⟨n, hn, rfl⟩), rfl⟩
  · have h3' : ((ms.map Int.toNat).map fun n => ((n : Nat) : Int)).Nodup := back ▸ h3
    exact List.Pairwise.imp (fun h e => h (by rw [e])) (List.pairwise_map.mp h3')
end
theorem somes_map (row : List (Option Nat)) : (row.filter fun o => !isNon (oD o)).map oD = (row.filterMap id).map nD := by
  induction row with
  | nil => rfl
  | cons o r ih =>
    cases o with
    | none => exact ih
    | some x =>
      show oD (some x) :: _ = nD x :: _
      rw [ih]
      rfl
theorem somes_filter (q : PyData → Bool) (row : List (Option Nat)) : (row.filter fun o => !isNon (oD o) && q (oD o)).map oD = ((row.filterMap id).filter fun x => q (nD x)).map nD := by
  induction row with
  | nil => rfl
  | cons o r ih =>
    cases o with
    | none => exact ih
    | some x =>
      show (List.filter _ (some x :: r)).map oD = (List.filter _ (x :: r.filterMap id)).map nD
      rw [List.filter_cons, List.filter_cons]
      have e : (!isNon (oD (some x)) && q (oD (some x))) = q (nD x) := rfl
      rw [e]
      cases q (nD x) with
      | true =>
        simp only [if_true, List.map_cons]
        rw [ih]
        rfl
      | false => exact ih
theorem zip_at {α : Type} {xs : List α} {j : Nat} {p : α × Nat} (h : xs.zipIdx[j]? = some p) : xs[j]? = some p.1 ∧ p.2 = j := by
  rw [List.getElem?_zipIdx] at h
  cases hx : xs[j]? with
  | none => rw [hx] at h; cases h
  | some a =>
    rw [hx] at h
    cases h
    exact ⟨rfl, by simp⟩
variable {P : Program} {w : World} {K : PySem.W.Frag} {mg : Str → Option Value} {base : Heap}
abbrev FReached (P : Program) (w : World) (K : PySem.W.Frag) (mg : Str → Option Value) (base : Heap) : Prop :=
  FnD P w K mg base 1 "_law_reached" (fun s : Sta => s.Ok 5) (fun s => [Dat K (.tuple (s.slots.map rowD)), Dat K (.tuple (s.held.map hrowD))])
    (fun s => ExD K fun d => ∃ ms : List Nat, d = .list (ms.map nD) ∧ ms.length ≤ 9 ∧ ∀ x ∈ ms, Rch s.abs x ∧ x < s.slots.length)
theorem f_reached (B : Bi mg) (D : DefAt K mg "_law_reached" s_l_reached) : FReached P w K mg base :=
  def_D D S_l_reached (fun f fd F => F.binds fun _ _ _ _ _ _ us hl => match us, hl with | [_, _], _ => rfl) (fun _ => inferInstance) (fun _ => rfl) fun f cdv A outer s H E hr t o => by
    have hu := hu65 hr
    have hu' := hu64 hr
    have o : t.Ok 5 := o
    have hn : t.slots.length ≤ 9 := o.n
    have few : ∀ ms : List Nat, ms.Nodup → (∀ x ∈ ms, Rch t.abs x ∧ x < t.slots.length) → ms.length ≤ 9 := fun ms hd h => Nat.le_trans (nodup_bound _ ms hd fun x hx => (h x hx).2) hn
    refine ss_c (s_setL1 2 (e_lst d_nil) S_l_reached.nd) ?_
    refine ss_cons (s_forA (α := List Nat) (fun _ acc => [.is (Dat K (.tuple (t.slots.map rowD))), .is (Dat K (.tuple (t.held.map hrowD))), .own (acc.map nD), .no, .no, .no, .no, .no])
      (fun i acc => acc.length ≤ 9 * i ∧ ∀ x ∈ acc, ∃ r ∈ t.held, x ∈ r) [] (xs := t.held) (enc := hrowD) rfl (i_tup (e_v 1)) (pg_name (i := 3) S_l_reached.nd rfl (.inl rfl)) (fun x _ => tg_name 3 _) (.same (.same (.same (.same (.same (.same (.same (.same .nil)))))))) ⟨Nat.le_refl _, fun x h => (by cases h)⟩ ?_ PassesOwn.never) ?_
    · intro i row acc hrow ⟨hl, ha⟩
      have hl2 : row.length ≤ 9 := (o.hb row (List.mem_of_getElem? hrow)).1
      have hi : i < 2 := by
        have := (List.getElem?_eq_some_iff.mp hrow).1
        rw [o.lh] at this
        exact this
      refine ss_end (ss_one (s_ext 2 (ds := acc.map nD) (ds' := row.map nD) rfl (e_trk (e_list B.list (e_sqd (e_v 3)))) (by simp; omega))) ⟨acc ++ row, ⟨by rw [List.length_append]; omega, fun x hx => ?_⟩, ?_⟩
      · rcases List.mem_append.mp hx with z | z
        · exact ha x z
        · exact ⟨row, List.mem_of_getElem? hrow, z⟩
      · rw [List.map_append]
        exact .same (.same (.same (.drop (.same (.same (.same (.same .nil)))))))
    rintro e ⟨acc, ⟨hl, ha⟩, w⟩
    rw [o.lh] at hl
    refine ss_pre w (ss_cons (s_setL 2 (e_ssNat rfl hu' B.sorted B.set (e_sqdL (e_lsdT (e_o 2))) (by omega)) S_l_reached.nd) ?_)
    rintro e ⟨ds, ⟨ms, m1, m2, m3, rfl⟩, rfl⟩
    have hm : ∀ x ∈ ms, Rch t.abs x ∧ x < t.slots.length := fun x hx => by
      obtain ⟨r, hr1, hr2⟩ := ha x ((m1 x).mp hx)
      obtain ⟨j, hj⟩ := List.getElem?_of_mem hr1
      exact ⟨.held ⟨r, hj, hr2⟩, (o.hb r hr1).2 x hr2⟩
    refine ss_cons (s_forA (α := List Nat) (fun _ ms => [.is (Dat K (.tuple (t.slots.map rowD))), .is (Dat K (.tuple (t.held.map hrowD))), .own (ms.map nD), .no, .no, .no, .no, .no])
      (fun i ms => ms.Nodup ∧ ∀ x ∈ ms, Rch t.abs x ∧ x < t.slots.length) ms (xs := List.range t.slots.length) (enc := fun i => .int (i : Nat)) rfl (i_range (n := (t.slots.length : Nat)) B.range (d_cons (e_is (e_len B.len (e_sqd (e_v 0))) (by rw [List.length_map])) d_nil) (by omega) (by omega)) (pg_name (i := 4) S_l_reached.nd rfl (.inl rfl)) (fun x _ => tg_name 4 _) (.same (.same (.same (.same (.same (.same (.same (.same .nil)))))))) ⟨m3, hm⟩ ?_ PassesOwn.never) ?_
    · clear hm m1 m2 m3
      intro i _ ms _ ⟨m3, hm⟩
      have hlm := few ms m3 hm
      refine ss_c (s_setL1 5 (e_list B.list (e_sqdL (e_lsdT (e_o 2)))) S_l_reached.nd) (ss_frz 2 rfl ?_)
      refine ss_cons (s_forA (α := List Nat) (fun _ acc => [.is (Dat K (.tuple (t.slots.map rowD))), .is (Dat K (.tuple (t.held.map hrowD))), .is (Dat K (.list (ms.map nD))), .no, .no, .own (acc.map nD), .no, .no])
        (fun i acc => acc.length ≤ 9 + 2 * i ∧ ∀ x ∈ acc, Rch t.abs x ∧ x < t.slots.length) ms (xs := ms) (enc := nD) rfl (i_lst (e_v 2)) (pg_name (i := 6) S_l_reached.nd rfl (.inl rfl)) (fun x _ => tg_name 6 _) (.same (.same (.same (.same (.drop (.same (.same (.same .nil)))))))) ⟨by omega, hm⟩ ?_ PassesOwn.never) ?_
      · intro j y acc hy ⟨hl, ha⟩
        obtain ⟨ry, ly⟩ := hm y (List.mem_of_getElem? hy)
        have hj : j < 9 := Nat.lt_of_lt_of_le (List.getElem?_eq_some_iff.mp hy).1 hlm
        have hrow : t.slots[y]? = some t.slots[y] := List.getElem?_eq_getElem ly
        obtain ⟨hw, hb⟩ := o.row _ (List.mem_of_getElem? hrow)
        have hw2 := o.w2
        generalize t.slots[y] = row at hrow hw hb
        have hfl : (row.filterMap id).length ≤ 2 := Nat.le_trans (List.length_filterMap_le _ _) (by omega)
        refine ss_end (ss_one (s_ext 5 (ds := acc.map nD) (ds' := (row.filterMap id).map nD) rfl (e_trk (e_isL (e_lc (c := fun o => !isNon (oD o)) (f := oD) (own := [("_law_one", 7)]) (enc := oD) (xs := row) rfl S_l_reached.nd (i_tup (e_ixT (d := rowD row) (e_v 0) (e_v 6) (by omega) (by rw [Int.toNat_natCast, List.getElem?_map, hrow]; rfl))) (blkOk_by (N := N_l_reached) (sc := defScope s_l_reached) (by decide +kernel)) (fun _ _ _ _ _ => pg_name (i := 7) S_l_reached.nd rfl (.inl rfl)) (fun x _ => tg_name 7 _) (by simp)
          (fun x _ _ _ _ _ _ => ts_one (t_notN (e_v 7) e_non (nomark _))) (fun x _ _ _ _ _ _ _ => e_v 7) (by omega)) (somes_map row))) (by simp only [List.length_map]; omega))) ⟨acc ++ row.filterMap id, ⟨by rw [List.length_append]; omega, fun x hx => ?_⟩, ?_⟩
        · rcases List.mem_append.mp hx with z | z
          · exact ha x z
          · obtain ⟨o', ho', e⟩ := List.mem_filterMap.mp z
            have e : o' = some x := e
            subst e
            obtain ⟨u, hu⟩ := List.getElem?_of_mem ho'
            exact ⟨.next ry ⟨row, hrow, hu⟩, hb x ho'⟩
        · rw [List.map_append]
          exact .same (.same (.same (.same (.same (.same (.drop (.same .nil)))))))
      rintro e ⟨acc, ⟨hl, ha⟩, w⟩
      refine ss_pre w (ss_wk (ss_one (s_setL 2 (e_ssNat rfl hu' B.sorted B.set (e_sqdL (e_lsdT (e_o 5))) (by omega)) S_l_reached.nd)) ?_)
      rintro e ⟨ds, ⟨ns, n1, n2, n3, rfl⟩, rfl⟩
      exact ⟨_, .same (.same (.same (.same (.same (.drop (.same (.same .nil))))))), ns, ⟨n3, fun x hx => ha x ((n1 x).mp hx)⟩, WkL.refl _⟩
    rintro e ⟨ms, ⟨m3, hm⟩, w⟩
    exact ss_pre w (ss_frz 2 rfl (ss_one (s_ret (e_weak (e_v 2) fun F H v _ h => ⟨_, ⟨ms, rfl, few ms m3 hm, hm⟩, h⟩))))
abbrev FCovered (P : Program) (w : World) (K : PySem.W.Frag) (mg : Str → Option Value) (base : Heap) : Prop :=
  FnD P w K mg base 1 "_law_covered" (fun s : Sta => s.Ok 5) (fun s => [Dat K (staD s)]) (fun s => ExD K fun d => ∃ ms : List Nat, d = .list (ms.map nD) ∧ ∀ x, Cov s.abs x → x ∈ ms)
/-- in the midst of a round -/
structure Mid (t : Sta) (f0 : List Nat) (j : Nat) (f : List Nat) : Prop where
  len : f.length ≤ f0.length + 2 * j
  sub : ∀ x ∈ f0, x ∈ f
  lt : ∀ x ∈ f, x < t.slots.length
  all : ∀ y, y < j → (t.abs.col y = some .grey ∨ y ∈ f0) → ∀ u x, t.abs.edge y u x → W t.abs x → x ∈ f
theorem f_covered (B : Bi mg) (D : DefAt K mg "_law_covered" s_l_covered) : FCovered P w K mg base :=
  def_D D S_l_covered (fun f fd F => F.binds fun _ _ _ _ _ _ us hl => match us, hl with | [_], _ => rfl) (fun _ => inferInstance) (fun _ => rfl) fun f cdv A outer s H E hr t o => by
    have hu := hu65 hr
    have hu' := hu64 hr
    have o : t.Ok 5 := o
    have hn : t.slots.length ≤ 9 := o.n
    refine ss_c (s_setL1 1 (e_lst d_nil) S_l_covered.nd) ?_
    refine ss_cons (s_forA (α := List Nat) (fun _ f => [.is (Dat K (staD t)), .own (f.map nD), .no, .no, .no, .no, .no])
      (fun i f => f.length ≤ 18 * i ∧ Rounds t i f) [] (xs := List.range t.slots.length) (enc := fun i => .int (i : Nat)) rfl (i_range (n := (t.slots.length : Nat)) B.range (d_cons (e_is (e_len B.len (e_sqd (e_ixT (d := .tuple (t.slots.map rowD)) (e_v 0) e_int (by decide) rfl))) (by rw [List.length_map])) d_nil) (by omega) (by omega)) (pg_name (i := 2) S_l_covered.nd rfl (.inl rfl)) (fun x _ => tg_name 2 _) (.same (.same (.same (.same (.same (.same (.same .nil))))))) ⟨Nat.le_refl _, rounds_zero t⟩ ?_ PassesOwn.never) ?_
    · intro i _ f0 hi ⟨hl0, hr0⟩
      have hi9 : i < 9 := by
        have := (List.getElem?_eq_some_iff.mp hi).1
        rw [List.length_range] at this
        omega
      refine ss_nx (ss_one (s_forA (α := List Nat) (fun _ f => [.is (Dat K (staD t)), .own (f.map nD), .no, .no, .no, .no, .no]) (Mid t f0) f0 (xs := t.slots.zipIdx) rfl (i_enum (xs := t.slots) (enc := rowD) B.enumerate (d_cons (e_ixT (d := .tuple (t.slots.map rowD)) (e_v 0) e_int (by decide) rfl) d_nil))
        (pg_tup rfl (pgs_cons (pg_name (i := 3) S_l_covered.nd rfl (.inl rfl)) (pgs_cons (pg_name (i := 4) S_l_covered.nd rfl (.inl rfl)) pgs_nil))) (fun p _ => tg_pair 3 4 _ _) (.same (.same (.drop (.same (.same (.same (.same .nil))))))) ⟨Nat.le_refl _, fun _ h => h, hr0.1, fun y h => absurd h (Nat.not_lt_zero _)⟩ ?_ PassesOwn.never)) ?_
      · rintro j ⟨row, j'⟩ f hp M
        obtain ⟨hrow, hj⟩ := zip_at hp
        have hj : j' = j := hj
        subst hj
        have hjl : j' < t.slots.length := (List.getElem?_eq_some_iff.mp hrow).1
        obtain ⟨c, hc1, hc2⟩ := col_at o hjl
        have hrow : t.slots[j']? = some row := hrow
        obtain ⟨hw, hb⟩ := o.row _ (List.mem_of_getElem? hrow)
        have hw2 := o.w2
        have hfl : (row.filterMap id).length ≤ 2 := Nat.le_trans (List.length_filterMap_le _ _) (by omega)
        have hf := M.len
        refine ss_one (s_if (c := decide (c = .grey) || decide (j' ∈ f)) (t_is (PW.pt (w_or (t_eq hu' (e_ixT (e_ixT (d := .tuple (t.col.map cD)) (e_v 0) e_int (by decide) rfl) (e_v 3) (by omega) hc2) e_str (shaped_of (shd_c c) (by decide)) (sh_str (by decide +kernel)) (nomark _)) fun _ => w_or1 (t_inL (d := nD j') hu (e_v 3) (e_o 1) (shaped_of (shd_n j') (by decide)) (shaped_of (shd_lst (shd_map f shd_n)) (by decide))))) ?_) (fun hg => ?_) (fun hg => ?_))
        · rw [any_nat, show PyData.str "grey" = cD .grey from rfl, eqv_c]
        · let ns : List Nat := (row.filterMap id).filter fun x => !(f.map nD).any fun z => PyData.eqv z (nD x)
          have hns : ns.length ≤ 2 := Nat.le_trans (List.length_filter_le _ _) hfl
          have mns : ∀ x, x ∈ ns ↔ some x ∈ row ∧ x ∉ f := fun x => by
            show x ∈ List.filter _ _ ↔ _
            rw [List.mem_filter, any_nat, List.mem_filterMap]
            constructor
            · rintro ⟨⟨o', h1, h2⟩, h3⟩
              have h2 : o' = some x := h2
              subst h2
              exact ⟨h1, fun z => by rw [decide_eq_true z] at h3; cases h3⟩
            · rintro ⟨h1, h2⟩
              exact ⟨⟨some x, h1, rfl⟩, by rw [decide_eq_false h2]; rfl⟩
          refine ss_c (s_lc 5 (somes_filter (fun d => !(f.map nD).any fun z => PyData.eqv z d) row) (c := fun o => !isNon (oD o) && !(f.map nD).any fun z => PyData.eqv z (oD o)) (f := oD) (own := [("_law_one", 6)]) (enc := oD) (xs := row) rfl S_l_covered.nd (i_tup (e_v 4)) (blkOk_by (N := N_l_covered) (sc := defScope s_l_covered) (by decide +kernel)) (fun _ _ _ _ _ => pg_name (i := 6) S_l_covered.nd rfl (.inl rfl)) (fun x _ => tg_name 6 _) (by simp)
            (fun x _ _ _ _ _ _ => ts_one (PW.pt (w_and (t_notN (e_v 6) e_non (nomark _)) fun _ => w_and1 (t_ninL hu (e_v 6) (e_o 1) (shaped_of (shd_o x) (by decide)) (shaped_of (shd_lst (shd_map f shd_n)) (by decide)))))) (fun x _ _ _ _ _ _ _ => e_v 6) (by omega)) (ss_frz 5 rfl ?_)
          refine ss_end (ss_one (s_ext 1 (ds := f.map nD) (ds' := (ns.filter fun x => decide (t.col[x]? = some .white)).map nD) rfl (e_trk (e_lc (c := fun x => decide (t.col[x]? = some .white)) (f := nD) (own := [("_law_one", 6)]) (enc := nD) (xs := ns) rfl S_l_covered.nd (i_lst (e_v 5)) (blkOk_by (N := N_l_covered) (sc := defScope s_l_covered) (by decide +kernel)) (fun _ _ _ _ _ => pg_name (i := 6) S_l_covered.nd rfl (.inl rfl)) (fun x _ => tg_name 6 _) (by simp)
            (fun x hx _ _ _ _ _ => ?_) (fun x _ _ _ _ _ _ _ => e_v 6) (by omega))) (by have := List.length_filter_le (fun x => decide (t.col[x]? = some C.white)) ns; simp only [List.length_map]; omega))) ⟨f ++ ns.filter fun x => decide (t.col[x]? = some .white), ⟨?_, fun x hx => List.mem_append_left _ (M.sub x hx), fun x hx => ?_, fun y hy g u x he hwx => ?_⟩, ?_⟩
          · obtain ⟨c2, hd1, hd2⟩ := col_at o (hb x ((mns x).mp hx).1)
            refine ts_one (t_is (t_eq hu' (e_ixT (e_ixT (d := .tuple (t.col.map cD)) (e_v 0) e_int (by decide) rfl) (e_v 6) (by omega) hd2) e_str (shaped_of (shd_c c2) (by decide)) (sh_str (by decide +kernel)) (nomark _)) ?_)
            rw [show PyData.str "white" = cD .white from rfl, eqv_c, hd1]
            simp
          · have := List.length_filter_le (fun x => decide (t.col[x]? = some C.white)) ns
            rw [List.length_append]
            omega
          · rcases List.mem_append.mp hx with z | z
            · exact M.lt x z
            · exact hb x ((mns x).mp (List.mem_filter.mp z).1).1
          · by_cases hyj : y = j'
            · subst hyj
              by_cases hxf : x ∈ f
              · exact List.mem_append_left _ hxf
              · obtain ⟨row', e1, e2⟩ := he
                rw [hrow] at e1
                cases e1
                exact List.mem_append_right _ (List.mem_filter.mpr ⟨(mns x).mpr ⟨List.mem_of_getElem? e2, hxf⟩, decide_eq_true hwx⟩)
            · exact List.mem_append_left _ (M.all y (by omega) g u x he hwx)
          · rw [List.map_append]
            exact .same (.same (.same (.drop (.drop (.drop (.same .nil))))))
        · refine ss_end ss_nil ⟨f, ⟨by omega, M.sub, M.lt, fun y hy g u x he hwx => ?_⟩, .same (.same (.same (.drop (.drop (.same (.same .nil))))))⟩
          by_cases hyj : y = j'
          · subst hyj
            simp only [Bool.or_eq_false_iff, decide_eq_false_iff_not] at hg
            rcases g with g | g
            · have g : t.col[y]? = some .grey := g
              rw [hc1] at g
              exact absurd (Option.some.inj g) hg.1
            · exact absurd (M.sub y g) hg.2
          · exact M.all y (by omega) g u x he hwx
      · rintro e ⟨f, M, wk⟩
        rw [List.length_zipIdx] at M
        have hl := M.len
        exact ⟨f, ⟨by omega, rounds_succ hr0 ⟨M.sub, M.lt, fun y u x g he hwx => M.all y (by
          obtain ⟨row, e1, _⟩ := he
          exact (List.getElem?_eq_some_iff.mp e1).1) g u x he hwx⟩⟩, wk⟩
    rintro e ⟨f, ⟨hl, hr0⟩, wk⟩
    rw [List.length_range] at hl hr0
    refine ss_pre wk (ss_one (s_ret (e_weak (e_exL (e_ssNat rfl hu' B.sorted B.set (e_sqdL (e_lsdT (e_o 1))) (by omega))) fun F H v _ ⟨d, ⟨ds, e1, ms, m1, m2, m3, e2⟩, hd⟩ => ⟨d, ⟨ms, by rw [e1, e2], fun x c => (m1 x).mpr (rounds_all o hr0 c)⟩, hd⟩)))
end Sr
/-! the walk: has -/
namespace Sr
open PySem PySem.Spec PyProof.Rows L2 Dl Sb
variable {P : Program} {w : World} {K : PySem.W.Frag} {mg : Str → Option Value} {base : Heap}
theorem wk_bad {t : Sta} {rs : Bool} (o : t.Ok 5) (h : endedB rs t = true) : Ended rs t := by
  unfold endedB at h
  simp only [Bool.and_eq_true, Bool.not_eq_true', Bool.or_eq_false_iff, Bool.not_eq_false'] at h
  obtain ⟨⟨h1, h2⟩, h3⟩ := h
  refine ⟨fun x hx => ?_, fun j hj => ?_, fun hrs j x ⟨row, e1, e2⟩ hw => ?_⟩
  · have : (t.col.map cD).any (fun z => PyData.eqv z (.str "grey")) = true :=
      List.any_eq_true.mpr ⟨cD .grey, List.mem_map.mpr ⟨_, List.mem_of_getElem? hx, rfl⟩, by rw [show PyData.str "grey" = cD .grey from rfl, eqv_c]; rfl⟩
    rw [h1] at this
    cases this
  · unfold Sta.scOf
    rw [List.getD_eq_getElem?_getD, List.getElem?_eq_getElem hj]
    exact List.all_eq_true.mp h2 _ (List.getElem_mem hj)
  · have : (t.held.any fun row => rs && row.any fun x => decide (t.col[x]? = some .white)) = true :=
      List.any_eq_true.mpr ⟨row, List.mem_of_getElem? e1, by rw [hrs]; exact List.any_eq_true.mpr ⟨x, e2, decide_eq_true hw⟩⟩
    rw [h3] at this
    cases this
def sw (w : Word) : Bool := decide (w = .strong) || decide (w = .weak)
def ccd (w : Word) : Bool := decide (w = .clean) || (decide (w = .covered) || decide (w = .direct))
abbrev FHas (P : Program) (w : World) (K : PySem.W.Frag) (mg : Str → Option Value) (base : Heap) : Prop :=
  FnD P w K mg base 2 "_law_has" (fun i : Bool × Sta × Word => i.2.1.Ok 5) (fun i => [Dat K (.bool i.1), Dat K (staD i.2.1), Dat K (.str (wS i.2.2))])
    (fun i => ExD K fun d => ∃ b : Bool, d = .bool b ∧ (Has i.1 i.2.1 i.2.2 → b = true))
theorem f_has (B : Bi mg) (D : DefAt K mg "_law_has" s_l_has) (FE : FEnded P w K mg base) (FR : FReached P w K mg base) (FC : FCovered P w K mg base) : FHas P w K mg base :=
  def_D D S_l_has (fun f fd F => F.binds fun _ _ _ _ _ _ us hl => match us, hl with | [_, _, _], _ => rfl) (fun _ => inferInstance) (fun _ => rfl) fun f cdv A outer s H E hr ⟨rs, t, wd⟩ o => by
    have hu := hu65 hr
    have hu' := hu64 hr
    have o : t.Ok 5 := o
    have hn : t.slots.length ≤ 9 := o.n
    refine ss_to [.is (Dat K (.bool rs)), .is (Dat K (staD t)), .is (Dat K (.str (wS wd))), .no, .no, .no, .no, .no, .no, .no, .no, .no, .no, .no, .no] ?_
    have R1 : ∀ {b : Bool} {F H : Hp} {v : V}, (Has rs t wd → b = true) → Dat K (.bool b) F H v → ExD K (fun d => ∃ b : Bool, d = .bool b ∧ (Has rs t wd → b = true)) F H v := fun h r => ⟨_, ⟨_, rfl, h⟩, r⟩
    refine ss_c (s_asg (e_v 1) (pg_tup rfl (pgs_cons (pg_name (i := 3) S_l_has.nd rfl (.inl rfl)) (pgs_cons (pg_name (i := 4) S_l_has.nd rfl (.inl rfl)) (pgs_cons (pg_name (i := 5) S_l_has.nd rfl (.inr rfl)) (pgs_cons (pg_name (i := 6) S_l_has.nd rfl (.inl rfl)) (pgs_cons (pg_name (i := 7) S_l_has.nd rfl (.inl rfl)) pgs_nil))))))
      (tg_tup (tgs_cons 3 (tgs_cons 4 (tgs_cons 5 (tgs_cons 6 (tgs_cons 7 tgs_nil))))))) ?_
    refine ss_to [.is (Dat K (.bool rs)), .is (Dat K (staD t)), .is (Dat K (.str (wS wd))), .is (Dat K (.int t.w)), .is (Dat K (.tuple (t.slots.map rowD))), .is (Dat K (.tuple (t.col.map cD))), .is (Dat K (.tuple (t.held.map hrowD))), .is (Dat K (.tuple (t.sc.map .bool))), .no, .no, .no, .no, .no, .no, .no] ?_
    refine ss_ifr (t_is (t_eq hu' (e_v 2) e_str (shaped_of (shd_w wd) (by decide)) (sh_str (by decide +kernel)) (nomark _)) (eqv_w wd .safe)) (fun hc => ?_) fun hc => ?_
    · have hc : wd = .safe := of_decide_eq_true hc
      subst hc
      refine ss_one (s_ret ?_)
      refine e_orG (c := !endedB rs t) (e_not ?_) (fun h F H => ⟨_, ⟨true, rfl, fun _ => rfl⟩, .bl _⟩) fun he => pe_one ?_
      · exact e_call FE (rs, t) o hr (a_cons (e_v 0) (a_cons (e_v 1) a_nil))
      refine e_wkG (e_notG (P := fun b => Has rs t .safe → b = false) (e_wkG (e_anyG (p := fun x => decide (t.col[x]? = some .white)) (Pxs := fun ms => ms.length ≤ 9 ∧ ∀ x ∈ ms, Rch t.abs x ∧ x < t.slots.length) rfl B.any (e_wkL (e_lcG (Pxs := fun ms => ms.length ≤ 9 ∧ ∀ x ∈ ms, Rch t.abs x ∧ x < t.slots.length) (c := fun _ => true) (Qf := fun x d => d = .bool (decide (t.col[x]? = some .white))) (own := [("_law_one", 14)]) (enc := nD) rfl S_l_has.nd
        (i_lstG (e_wkG (e_call FR t o hr (a_cons (e_v 4) (a_cons (e_v 6) a_nil))) (by rintro d ⟨ms, h1, h2, h3⟩; exact ⟨ms, ⟨h2, h3⟩, h1⟩))) (blkOk_by (N := N_l_has) (sc := defScope s_l_has) (by decide +kernel)) (fun _ _ _ _ _ => pg_name (i := 14) S_l_has.nd rfl (.inl rfl)) (fun xs _ x _ => tg_name 14 _) (by simp) (fun _ _ _ _ _ _ _ _ _ => ts_nil) (fun xs hxs x hx _ _ _ _ _ _ => ?_) (fun xs h => by have := h.1; omega))
          (by rintro ds ⟨xs, px, ar⟩; exact ⟨xs, px, by rw [List.filter_eq_self.mpr fun _ _ => rfl] at ar; exact allR_eq ar⟩))) ?_)) ?_
      · obtain ⟨c, hc1, hc2⟩ := col_at o (hxs.2 x hx).2
        refine e_toG (e_eq hu' (e_ixT (d := cD c) (e_v 5) (e_v 14) (by omega) hc2) e_str (shaped_of (shd_c c) (by decide)) (sh_str (by decide +kernel)) (nomark _)) ?_
        rw [show PyData.str "white" = cD .white from rfl, eqv_c, hc1]
        simp
      · rintro d ⟨xs, ⟨_, px⟩, rfl⟩
        refine ⟨_, fun hs => ?_, rfl⟩
        refine List.any_eq_false.mpr fun x hx => ?_
        simp only [decide_eq_true_eq]
        exact hs (wk_bad o (by simpa using he)) x (px x hx).1
      · rintro d ⟨b, hb, rfl⟩
        exact ⟨!b, rfl, fun h => by rw [hb h]; rfl⟩
    · have hc : wd ≠ .safe := of_decide_eq_false hc
      refine ss_c (s_tup2 8 9 (p_own (e_lst d_nil) (p_is (e_call FC t o hr (a_cons (e_v 1) a_nil)) p_nil)) (by decide) (pg_tup rfl (pgs_cons (pg_name (i := 8) S_l_has.nd rfl (.inl rfl)) (pgs_cons (pg_name (i := 9) S_l_has.nd rfl (.inr rfl)) pgs_nil)))) (ss_ex 9 ?_)
      rintro _ ⟨ks, rfl, hks⟩
      let E0 : List Nat → Ent → List Ent := fun so ko => [.is (Dat K (.bool rs)), .is (Dat K (staD t)), .is (Dat K (.str (wS wd))), .is (Dat K (.int t.w)), .is (Dat K (.tuple (t.slots.map rowD))), .is (Dat K (.tuple (t.col.map cD))), .is (Dat K (.tuple (t.held.map hrowD))), .is (Dat K (.tuple (t.sc.map .bool))), .own (so.map nD), ko, .no, .no, .no, .no, .no]
      refine ss_to (E0 [] (.is (Dat K (.list (ks.map nD))))) ?_
      have white : ∀ (x : Nat) (c : C), t.col[x]? = some c → PyData.eqv (cD c) (.str "white") = decide (t.col[x]? = some C.white) := fun x c hx => by
        rw [show PyData.str "white" = cD .white from rfl, eqv_c, hx]
        simp
      -- the blacks' rows
      refine ss_cons (s_forA (α := List Nat) (fun _ so => E0 so (.is (Dat K (.list (ks.map nD))))) (fun i so => so.length ≤ 2 * i ∧ ∀ x ∈ so, sw wd = true ∧ BW t.abs x) [] (xs := t.slots.zipIdx) rfl (i_enum (xs := t.slots) (enc := rowD) B.enumerate (d_cons (e_v 4) d_nil))
        (pg_tup rfl (pgs_cons (pg_name (i := 10) S_l_has.nd rfl (.inl rfl)) (pgs_cons (pg_name (i := 11) S_l_has.nd rfl (.inl rfl)) pgs_nil))) (fun p _ => tg_pair 10 11 _ _) (WkL.refl _) ⟨Nat.le_refl _, fun x h => (by cases h)⟩ ?_ PassesOwn.never) ?_
      · rintro j ⟨row, j'⟩ so hp ⟨hl, hso⟩
        obtain ⟨hrow, hj⟩ := zip_at hp
        have hj : j' = j := hj
        subst hj
        have hrow : t.slots[j']? = some row := hrow
        have hjl : j' < t.slots.length := (List.getElem?_eq_some_iff.mp hrow).1
        obtain ⟨c, hc1, hc2⟩ := col_at o hjl
        obtain ⟨hw, hb⟩ := o.row _ (List.mem_of_getElem? hrow)
        have hw2 := o.w2
        have hfl : (row.filterMap id).length ≤ 2 := Nat.le_trans (List.length_filterMap_le _ _) (by omega)
        let wq : PyData → Bool := fun d => match d with
          | .int i => decide (t.col[i.toNat]? = some .white)
          | _ => false
        let ns : List Nat := (row.filterMap id).filter fun x => wq (nD x)
        have hns : ns.length ≤ 2 := Nat.le_trans (List.length_filter_le _ _) hfl
        refine ss_one (s_if (c := decide (c = .black) && sw wd) (t_is (PW.pt (w_and (t_eq hu' (e_ixT (d := cD c) (e_v 5) (e_v 10) (by omega) hc2) e_str (shaped_of (shd_c c) (by decide)) (sh_str (by decide +kernel)) (nomark _)) fun _ => w_and1 (t_inT (d := .str (wS wd)) (ds := [.str (wS .strong), .str (wS .weak)]) hu (e_v 2) (e_tup (d_cons e_str (d_cons e_str d_nil))) (shaped_of (shd_w wd) (by decide)) (shaped_of (n := 2) (shd_tup (by simp [shd_w])) (by decide))))) ?_) (fun hg => ?_) (fun hg => ?_))
        · rw [show PyData.str "black" = cD .black from rfl, eqv_c]
          simp only [List.any_cons, List.any_nil, eqv_w, sw, Bool.or_false]
          congr 2 <;> simp [eq_comm]
        · rw [Bool.and_eq_true] at hg
          have hcb : c = .black := of_decide_eq_true hg.1
          refine ss_end (ss_one (s_ext 8 (ds := so.map nD) (ds' := ns.map nD) rfl (e_trk (e_isL (e_lc (c := fun o => !isNon (oD o) && wq (oD o)) (f := oD) (own := [("_law_one", 14)]) (enc := oD) (xs := row) rfl S_l_has.nd (i_tup (e_v 11)) (blkOk_by (N := N_l_has) (sc := defScope s_l_has) (by decide +kernel)) (fun _ _ _ _ _ => pg_name (i := 14) S_l_has.nd rfl (.inl rfl)) (fun x _ => tg_name 14 _) (by simp)
            (fun x hx _ _ _ _ _ => ?_) (fun x _ _ _ _ _ _ _ => e_v 14) (by omega)) (somes_filter wq row))) (by simp only [List.length_map]; omega))) ⟨so ++ ns, ⟨by rw [List.length_append]; omega, fun x hx => ?_⟩, ?_⟩
          · refine ts_one (PW.pt (w_and (t_notN (e_v 14) e_non (nomark _)) fun hx2 => w_and1 ?_))
            cases x with
            | none => cases hx2
            | some y =>
              obtain ⟨c2, hd1, hd2⟩ := col_at o (hb y hx)
              exact t_is (t_eq hu' (e_ixT (d := cD c2) (i := (y : Nat)) (e_v 5) (e_v 14) (by omega) hd2) e_str (shaped_of (shd_c c2) (by decide)) (sh_str (by decide +kernel)) (nomark _)) (white y c2 hd1)
          · rcases List.mem_append.mp hx with z | z
            · exact hso x z
            · obtain ⟨z1, z2⟩ := List.mem_filter.mp z
              obtain ⟨o', z3, z4⟩ := List.mem_filterMap.mp z1
              have z4 : o' = some x := z4
              subst z4
              obtain ⟨u, hu⟩ := List.getElem?_of_mem z3
              exact ⟨hg.2, (of_decide_eq_true (p := t.col[x]? = some C.white) z2), j', u, by rw [← hcb]; exact hc1, row, hrow, hu⟩
          · show WkL _ (E0 (so ++ ns) _)
            simp only [E0, List.map_append]
            exact .same (.same (.same (.same (.same (.same (.same (.same (.same (.same (.drop (.drop (.same (.same (.same .nil))))))))))))))
        · exact ss_end ss_nil ⟨so, ⟨by omega, hso⟩, .same (.same (.same (.same (.same (.same (.same (.same (.same (.same (.drop (.drop (.same (.same (.same .nil))))))))))))))⟩
      rintro e ⟨so, ⟨hl, hso⟩, wk⟩
      rw [List.length_zipIdx] at hl
      refine ss_pre wk (ss_cons (s_forA (α := List Nat) (fun _ so => E0 so (.is (Dat K (.list (ks.map nD))))) (fun i so => so.length ≤ 18 + 9 * i ∧ ∀ x ∈ so, (sw wd = true ∧ BW t.abs x) ∨ (ccd wd = true ∧ S t.abs x)) so (xs := t.held.zip t.sc) rfl (i_zip (xs := t.held) (enc := hrowD) (ys := t.sc) (enc' := .bool) B.zip (d_cons (e_v 6) (d_cons (e_v 7) d_nil)))
        (pg_tup rfl (pgs_cons (pg_name (i := 12) S_l_has.nd rfl (.inl rfl)) (pgs_cons (pg_name (i := 13) S_l_has.nd rfl (.inl rfl)) pgs_nil))) (fun p _ => tg_pair 12 13 _ _) (WkL.refl _) ⟨by omega, fun x h => .inl (hso x h)⟩ ?_ PassesOwn.never) ?_)
      · clear hl hso wk
        rintro j ⟨row, b⟩ so hp ⟨hl, hso⟩
        obtain ⟨hrow, hb⟩ := List.getElem?_zip_eq_some.mp hp
        have hrow : t.held[j]? = some row := hrow
        have hb : t.sc[j]? = some b := hb
        obtain ⟨hr9, hrl⟩ := o.hb row (List.mem_of_getElem? hrow)
        have hj2 : j < 2 := by
          have := (List.getElem?_eq_some_iff.mp hrow).1
          rw [o.lh] at this
          exact this
        let ns : List Nat := row.filter fun x => decide (t.col[x]? = some .white)
        have hns : ns.length ≤ 9 := Nat.le_trans (List.length_filter_le _ _) hr9
        refine ss_one (s_if (c := b && ccd wd) (t_is (PW.pt (w_and (t_val (e_v 13)) fun _ => w_and1 (t_inT (d := .str (wS wd)) (ds := [.str (wS .clean), .str (wS .covered), .str (wS .direct)]) hu (e_v 2) (e_tup (d_cons e_str (d_cons e_str (d_cons e_str d_nil)))) (shaped_of (shd_w wd) (by decide)) (shaped_of (n := 2) (shd_tup (by simp [shd_w])) (by decide))))) ?_) (fun hg => ?_) (fun hg => ?_))
        · simp only [List.any_cons, List.any_nil, eqv_w, ccd, Bool.or_false]
          congr 2
          · simp [eq_comm]
          · congr 1 <;> simp [eq_comm]
        · rw [Bool.and_eq_true] at hg
          refine ss_end (ss_one (s_ext 8 (ds := so.map nD) (ds' := ns.map nD) rfl (e_trk (e_lc (c := fun x => decide (t.col[x]? = some .white)) (f := nD) (own := [("_law_one", 14)]) (enc := nD) (xs := row) rfl S_l_has.nd (i_tup (e_v 12)) (blkOk_by (N := N_l_has) (sc := defScope s_l_has) (by decide +kernel)) (fun _ _ _ _ _ => pg_name (i := 14) S_l_has.nd rfl (.inl rfl)) (fun x _ => tg_name 14 _) (by simp)
            (fun x hx _ _ _ _ _ => ?_) (fun x _ _ _ _ _ _ _ => e_v 14) (by omega))) (by simp only [List.length_map]; omega))) ⟨so ++ ns, ⟨by rw [List.length_append]; omega, fun x hx => ?_⟩, ?_⟩
          · obtain ⟨c2, hd1, hd2⟩ := col_at o (hrl x hx)
            exact ts_one (t_is (t_eq hu' (e_ixT (d := cD c2) (e_v 5) (e_v 14) (by omega) hd2) e_str (shaped_of (shd_c c2) (by decide)) (sh_str (by decide +kernel)) (nomark _)) (white x c2 hd1))
          · rcases List.mem_append.mp hx with z | z
            · exact hso x z
            · obtain ⟨z1, z2⟩ := List.mem_filter.mp z
              refine .inr ⟨hg.2, (of_decide_eq_true (p := t.col[x]? = some C.white) z2), j, ?_, row, hrow, z1⟩
              show t.scOf j = true
              unfold Sta.scOf
              rw [List.getD_eq_getElem?_getD, hb]
              exact hg.1
          · show WkL _ (E0 (so ++ ns) _)
            simp only [E0, List.map_append]
            exact .same (.same (.same (.same (.same (.same (.same (.same (.same (.same (.same (.same (.drop (.drop (.same .nil))))))))))))))
        · exact ss_end ss_nil ⟨so, ⟨by omega, hso⟩, .same (.same (.same (.same (.same (.same (.same (.same (.same (.same (.same (.same (.drop (.drop (.same .nil))))))))))))))⟩
      clear hl hso wk
      rintro e ⟨so, ⟨hl, hso⟩, wk⟩
      have hz2 : (t.held.zip t.sc).length ≤ 2 := by rw [List.length_zip, o.lh, o.ls]; exact Nat.le_refl _
      refine ss_pre wk (ss_ifr (t_is (t_inT (d := .str (wS wd)) (ds := [.str (wS .strong), .str (wS .clean)]) hu (e_v 2) (e_tup (d_cons e_str (d_cons e_str d_nil))) (shaped_of (shd_w wd) (by decide)) (shaped_of (n := 2) (shd_tup (by simp [shd_w])) (by decide))) (d' := decide (wd = .strong) || decide (wd = .clean)) ?_) (fun hg => ?_) fun hg => ?_)
      · simp only [List.any_cons, List.any_nil, eqv_w, Bool.or_false]
        congr 1 <;> simp [eq_comm]
      · refine ss_one (s_ret (e_weak (e_eq hu' (e_o 8) (e_trk (e_lst d_nil)) (shaped_of (shd_lst (shd_map so shd_n)) (by decide)) (shaped_of (n := 1) (shd_lst (by simp)) (by decide)) (nomark _)) fun F H v _ r => R1 (fun hs => ?_) r))
        have none_ : ∀ x, x ∉ so := fun x hx => by
          rw [Bool.or_eq_true, decide_eq_true_eq, decide_eq_true_eq] at hg
          rcases hg with hg | hg
          · subst hg
            rcases hso x hx with ⟨_, h⟩ | ⟨h, _⟩
            · exact hs x h
            · cases h
          · subst hg
            rcases hso x hx with ⟨h, _⟩ | ⟨_, h⟩
            · cases h
            · exact hs x h
        cases so with
        | nil => rfl
        | cons x r => exact absurd List.mem_cons_self (none_ x)
      rw [Bool.or_eq_false_iff, decide_eq_false_iff_not, decide_eq_false_iff_not] at hg
      refine ss_cons (P := fun e => ∃ kd : List PyData, (Shd 2 (.list kd) ∧ (Has rs t wd → ∀ x ∈ so, kd.any (fun z => PyData.eqv z (nD x)) = true)) ∧ WkL e (E0 so (.is (Dat K (.list kd))))) (s_if (c := decide (wd = .direct)) (t_is (t_eq hu' (e_v 2) e_str (shaped_of (shd_w wd) (by decide)) (sh_str (by decide +kernel)) (nomark _)) (eqv_w wd .direct)) (fun hd => ?_) (fun hd => ?_)) ?_
      · have hd : wd = .direct := of_decide_eq_true hd
        refine ss_c (s_setL1 9 (e_lst d_nil) S_l_has.nd) (ss_to (E0 so (.own [])) ?_)
        refine ss_cons (s_forA (α := List (Option Nat)) (fun _ kk => E0 so (.own (kk.map oD))) (fun i kk => kk.length ≤ 2 * i ∧ ∀ y, y < i → t.abs.col y = some .grey → ∀ u x, t.abs.edge y u x → some x ∈ kk) [] (xs := t.slots.zipIdx) rfl (i_enum (xs := t.slots) (enc := rowD) B.enumerate (d_cons (e_v 4) d_nil))
          (pg_tup rfl (pgs_cons (pg_name (i := 10) S_l_has.nd rfl (.inl rfl)) (pgs_cons (pg_name (i := 11) S_l_has.nd rfl (.inl rfl)) pgs_nil))) (fun p _ => tg_pair 10 11 _ _) (WkL.refl _) ⟨Nat.le_refl _, fun y h => absurd h (Nat.not_lt_zero _)⟩ ?_ PassesOwn.never) ?_
        · rintro j ⟨row, j'⟩ kk hp ⟨hl2, hkk⟩
          obtain ⟨hrow, hj⟩ := zip_at hp
          have hj : j' = j := hj
          subst hj
          have hrow : t.slots[j']? = some row := hrow
          have hjl : j' < t.slots.length := (List.getElem?_eq_some_iff.mp hrow).1
          obtain ⟨c, hc1, hc2⟩ := col_at o hjl
          obtain ⟨hw, hb⟩ := o.row _ (List.mem_of_getElem? hrow)
          have hw2 := o.w2
          let add : List (Option Nat) := if c = .grey then row else []
          have hadd : add.length ≤ 2 := by
            show (if c = .grey then row else []).length ≤ 2
            split
            · omega
            · exact Nat.zero_le _
          refine ss_end (ss_one (s_ext 9 (ds := kk.map oD) (ds' := add.map oD) rfl (e_trk (e_ifL (c := decide (c = .grey)) (t_is (t_eq hu' (e_ixT (d := cD c) (e_v 5) (e_v 10) (by omega) hc2) e_str (shaped_of (shd_c c) (by decide)) (sh_str (by decide +kernel)) (nomark _)) (by rw [show PyData.str "grey" = cD .grey from rfl, eqv_c]))
            (fun hg => e_isL (e_list B.list (e_sqd (ds := row.map oD) (e_v 11))) (by show _ = (if c = .grey then row else []).map oD; rw [if_pos (of_decide_eq_true hg)])) (fun hg => e_isL (e_lst d_nil) (by show _ = (if c = .grey then row else []).map oD; rw [if_neg (of_decide_eq_false hg)]; rfl)))) (by simp only [List.length_map]; omega))) ⟨kk ++ add, ⟨by rw [List.length_append]; omega, fun y hy hg u x he => ?_⟩, ?_⟩
          · by_cases hyj : y = j'
            · subst hyj
              have hg : t.col[y]? = some .grey := hg
              rw [hc1] at hg
              have hcg : c = .grey := Option.some.inj hg
              obtain ⟨row', e1, e2⟩ := he
              rw [hrow] at e1
              cases e1
              refine List.mem_append_right _ ?_
              show _ ∈ (if c = .grey then row else [])
              rw [if_pos hcg]
              exact List.mem_of_getElem? e2
            · exact List.mem_append_left _ (hkk y (by omega) hg u x he)
          · show WkL _ (E0 so (.own ((kk ++ add).map oD)))
            simp only [List.map_append]
            exact .same (.same (.same (.same (.same (.same (.same (.same (.same (.same (.drop (.drop (.same (.same (.same .nil))))))))))))))
        · rintro e ⟨kk, ⟨hl2, hkk⟩, wk⟩
          rw [List.length_zipIdx] at hkk
          refine ss_pre wk (ss_frz 9 rfl (ss_end ss_nil ⟨_, ⟨shd_lst (shd_map kk shd_o), fun hs x hx => ?_⟩, WkL.refl _⟩))
          subst hd
          rcases hso x hx with ⟨h, _⟩ | ⟨_, h⟩
          · cases h
          · obtain ⟨g, u, hg, he⟩ := hs x h
            obtain ⟨row, e1, e2⟩ := id he
            exact List.any_eq_true.mpr ⟨oD (some x), List.mem_map.mpr ⟨_, hkk g (List.getElem?_eq_some_iff.mp e1).1 hg u x he, rfl⟩, by show PyData.eqv (.int x) (.int x) = true; rw [eqv_int]; simp⟩
      · refine ss_end ss_nil ⟨_, ⟨shd_lst (shd_map ks shd_n), fun hs x hx => ?_⟩, WkL.refl _⟩
        have hd : wd ≠ .direct := of_decide_eq_false hd
        rw [any_nat]
        refine decide_eq_true (hks x ?_)
        cases wd with
        | clean => exact absurd rfl hg.2
        | strong => exact absurd rfl hg.1
        | safe => exact absurd rfl hc
        | direct => exact absurd rfl hd
        | covered =>
          rcases hso x hx with ⟨h, _⟩ | ⟨_, h⟩
          · cases h
          · exact hs x h
        | weak =>
          rcases hso x hx with ⟨_, h⟩ | ⟨h, _⟩
          · exact hs x h
          · cases h
      · rintro e ⟨kd, ⟨hk1, hk2⟩, wk⟩
        refine ss_pre wk (ss_frz 8 rfl (ss_one (s_ret (e_weak (e_all (p := fun x => kd.any fun z => PyData.eqv z (nD x)) (xs := so) rfl B.all (e_lsdT (e_trk (e_lc0 (own := [("_law_one", 14)]) (enc := nD) rfl S_l_has.nd (i_lst (e_v 8)) (blkOk_by (N := N_l_has) (sc := defScope s_l_has) (by decide +kernel)) (fun _ _ _ _ _ => pg_name (i := 14) S_l_has.nd rfl (.inl rfl)) (fun x _ => tg_name 14 _) (by simp)
          (fun x _ _ _ _ _ _ => e_inL hu (e_v 14) (e_v 9) (shaped_of (shd_n x) (by decide)) (shaped_of hk1 (by decide))) (by omega))))) fun F H v _ r => R1 (fun hs => List.all_eq_true.mpr (hk2 hs)) r))))
end Sr
/-! the walk: load, store -/
namespace Sr
open PySem PySem.Spec PyProof.Rows L2 Dl Sb
variable {P : Program} {w : World} {K : PySem.W.Frag} {mg : Str → Option Value} {base : Heap}
structure StpI where
  M : List Mk
  rs : Bool
  s : Sta
abbrev AfterD (i : StpI) (p : Stp) (d : PyData) : Prop := ∃ s', d = staD s' ∧ After (tabOf i.M i.rs) i.s p s'
structure LoadI extends StpI where
  t : Nat
  h : Nat
  u : Nat
abbrev FLoad (P : Program) (w : World) (K : PySem.W.Frag) (mg : Str → Option Value) (base : Heap) : Prop :=
  FnD P w K mg base 2 "_law_load" (fun i : LoadI => i.s.Ok 5 ∧ Can i.s (.load i.t i.h i.u)) (fun i => [Dat K (tabD i.M i.rs), Dat K (staD i.s), Dat K (stpD (.load i.t i.h i.u))])
    (fun i => ExD K (AfterD i.toStpI (.load i.t i.h i.u)))
theorem set_map {α : Type} (f : α → PyData) (xs : List α) (n : Nat) (x : α) (h : n < xs.length) : withD (xs.map f) n (f x) = (xs.set n x).map f := by
  rw [withD_set _ (by rw [List.length_map]; exact h), List.map_set]
theorem nn {ds : List PyData} {x : Nat} {d : PyData} (h : ds[x]? = some d) : ds[((x : Nat) : Int).toNat]? = some d := by rw [Int.toNat_natCast]; exact h
theorem map_at {α : Type} {f : α → PyData} {xs : List α} {x : Nat} {a : α} (h : xs[x]? = some a) : (xs.map f)[((x : Nat) : Int).toNat]? = some (f a) := by
  rw [Int.toNat_natCast, List.getElem?_map, h]; rfl
theorem f_load (B : Bi mg) (D : DefAt K mg "_law_load" s_l_load) (FW : FWith P w K mg base) (FK : FKind P w K mg base) : FLoad P w K mg base :=
  def_D D S_l_load (fun f fd F => F.binds fun _ _ _ _ _ _ us hl => match us, hl with | [_, _, _], _ => rfl) (fun _ => inferInstance) (fun _ => rfl) fun f cdv A outer s0 H E hr ⟨⟨M, rs, s⟩, t, h, u⟩ ⟨o, can⟩ => by
    have hu := hu65 hr
    have hu' := hu64 hr
    have o : s.Ok 5 := o
    obtain ⟨row, srow, x, hrow, hhr, hsr, hx⟩ := can
    have hrow : s.held[t]? = some row := hrow
    have hsr : s.slots[h]? = some srow := hsr
    have hx : srow[u]? = some (some x) := hx
    have hh : h < s.slots.length := (List.getElem?_eq_some_iff.mp hsr).1
    have hxl : x < s.slots.length := o.slot hsr hx
    obtain ⟨ch, hch, hch2⟩ := col_at o hh
    obtain ⟨cx, hcx, hcx2⟩ := col_at o hxl
    have ht : t < s.held.length := (List.getElem?_eq_some_iff.mp hrow).1
    have hr9 : row.length ≤ 9 := (o.hb row (List.mem_of_getElem? hrow)).1
    have hn : s.slots.length ≤ 9 := o.n
    have hlc := o.lc
    refine ss_to [.is (Dat K (tabD M rs)), .is (Dat K (staD s)), .is (Dat K (stpD (.load t h u))), .no, .no, .no, .no, .no, .no, .no, .no, .no, .no] ?_
    refine ss_c (s_asg (e_v 1) (pg_tup rfl (pgs_cons (pg_name (i := 3) S_l_load.nd rfl (.inl rfl)) (pgs_cons (pg_name (i := 4) S_l_load.nd rfl (.inl rfl)) (pgs_cons (pg_name (i := 5) S_l_load.nd rfl (.inl rfl)) (pgs_cons (pg_name (i := 6) S_l_load.nd rfl (.inl rfl)) (pgs_cons (pg_name (i := 7) S_l_load.nd rfl (.inl rfl)) pgs_nil))))))
      (tg_tup (tgs_cons 3 (tgs_cons 4 (tgs_cons 5 (tgs_cons 6 (tgs_cons 7 tgs_nil))))))) ?_
    refine ss_c (s_asg (e_v 2) (pg_tup rfl (pgs_cons (pg_name (i := 8) S_l_load.nd rfl (.inl rfl)) (pgs_cons (pg_name (i := 9) S_l_load.nd rfl (.inl rfl)) (pgs_cons (pg_name (i := 10) S_l_load.nd rfl (.inl rfl)) (pgs_cons (pg_name (i := 11) S_l_load.nd rfl (.inl rfl)) pgs_nil)))))
      (tg_tup (tgs_cons 8 (tgs_cons 9 (tgs_cons 10 (tgs_cons 11 tgs_nil)))))) ?_
    let E1 : List C → Ent → List Ent := fun col fo => [.is (Dat K (tabD M rs)), .is (Dat K (staD s)), .is (Dat K (stpD (.load t h u))), .is (Dat K (.int s.w)), .is (Dat K (.tuple (s.slots.map rowD))), .is (Dat K (.tuple (col.map cD))), .is (Dat K (.tuple (s.held.map hrowD))), .is (Dat K (.tuple (s.sc.map .bool))), .is (Dat K (.str "load")), .is (Dat K (nD t)), .is (Dat K (nD h)), .is (Dat K (nD u)), fo]
    refine ss_to (E1 s.col .no) ?_
    refine ss_c (s_set 12 (e_ixT (d := nD x) (i := (u : Nat)) (e_ixT (d := rowD srow) (i := (h : Nat)) (e_v 4) (e_v 10) (by omega) (map_at hsr)) (e_v 11) (by omega) (map_at (f := oD) hx)) S_l_load.nd) ?_
    refine ss_to (E1 s.col (.is (Dat K (nD x)))) ?_
    let col' : List C := if s.col[x]? = some .white ∧ (tabOf M rs).ld (s.scOf t) ch = true then s.col.set x .grey else s.col
    refine ss_cons (P := fun e => e = E1 col' (.is (Dat K (nD x)))) (s_if (c := decide (cx = .white) && decide (Mk.ld (s.scOf t) ch ∈ M)) (t_is (PW.pt (w_and (t_eq hu' (e_ixT (d := cD cx) (i := (x : Nat)) (e_v 5) (e_v 12) (by omega) hcx2) e_str (shaped_of (shd_c cx) (by decide)) (sh_str (by decide +kernel)) (nomark _)) fun _ => w_and1 (t_inT (ds := M.map mkD) (d := mkD (.ld (s.scOf t) ch)) hu
        (e_tup (d_cons e_str (d_cons (e_call FK (s, t) (by show t < s.sc.length; rw [o.ls, ← o.lh]; exact ht) hr (a_cons (e_v 1) (a_cons (e_v 9) a_nil))) (d_cons (e_ixT (d := cD ch) (i := (h : Nat)) (e_v 5) (e_v 10) (by omega) hch2) d_nil)))) (e_ixT (d := .tuple (M.map mkD)) (e_v 0) e_int (by decide) rfl) (shaped_of (shd_mk _) (by decide)) (shaped_of (shd_tup (shd_map _ shd_mk)) (by decide))))) ?_) (fun hg => ?_) (fun hg => ?_)) ?_
    · rw [show PyData.str "white" = cD .white from rfl, eqv_c, any_mk]
    · rw [Bool.and_eq_true, decide_eq_true_eq, decide_eq_true_eq] at hg
      refine ss_end (ss_one (s_set 5 (e_is (e_call FW (s.col.map cD, x, .str "grey") (by show (s.col.map cD).length ≤ 1000; rw [List.length_map]; omega) hr (a_cons (e_v 5) (a_cons (e_v 12) (a_cons e_str a_nil)))) (congrArg PyData.tuple (set_map cD s.col x .grey (by omega)))) S_l_load.nd)) ?_
      have e : col' = s.col.set x .grey := if_pos ⟨by rw [hcx, hg.1], decide_eq_true hg.2⟩
      rw [e]
      rfl
    · refine ss_end ss_nil ?_
      have e : col' = s.col := if_neg fun z => by
        rw [Bool.and_eq_false_iff, decide_eq_false_iff_not, decide_eq_false_iff_not] at hg
        rcases hg with hg | hg
        · rw [hcx] at z
          exact hg (Option.some.inj z.1)
        · exact hg (of_decide_eq_true z.2)
      rw [e]
    rintro e rfl
    refine ss_one (s_ret (e_tupG (Rs := [Dat K (.int s.w), Dat K (.tuple (s.slots.map rowD)), Dat K (.tuple (col'.map cD)), ExD K (fun d => ∃ row', ((∀ y, y ∈ row' ↔ y ∈ row ∨ y = x) ∧ row'.length ≤ row.length + 1) ∧ d = .tuple ((s.held.set t row').map hrowD)), Dat K (.tuple (s.sc.map .bool))])
      (a_cons (e_v 3) (a_cons (e_v 4) (a_cons (e_v 5) (a_cons (e_callG FW (Rs' := [Dat K (.tuple (s.held.map hrowD)), Dat K (nD t), ExD K (fun d => ∃ row', ((∀ y, y ∈ row' ↔ y ∈ row ∨ y = x) ∧ row'.length ≤ row.length + 1) ∧ d = hrowD row')]) hr (a_cons (e_v 6) (a_cons (e_v 9) (a_cons (e_wkG (e_tupleG B.tuple (e_ssNat (ns := row ++ [x]) rfl hu' B.sorted B.set (e_sqd (e_is (e_cat (e_ixT (d := hrowD row) (i := (t : Nat)) (e_v 6) (e_v 9) (by omega) (map_at hrow)) (e_tup (d_cons (e_v 12) d_nil)) (by simp; omega)) (by rw [List.map_append]; rfl))) (by simp; omega))) ?_) a_nil))) ?_) (a_cons (e_v 7) a_nil))))) (by simp) ?_))
    · rintro d ⟨ds, ⟨ms, h1, h2, h3, rfl⟩, rfl⟩
      refine ⟨ms, ⟨fun y => by rw [h1]; simp, by rw [List.length_append] at h2; exact h2⟩, rfl⟩
    · rintro F H vs sh hv
      match vs, hv with
      | [v1, v2, v3], ⟨r1, r2, ⟨d, ⟨row', hr', ed⟩, r3⟩, _⟩ =>
        subst ed
        refine ⟨(s.held.map hrowD, t, hrowD row'), by show (s.held.map hrowD).length ≤ 1000; rw [List.length_map, o.lh]; decide, ⟨r1, r2, r3, trivial⟩, fun F' H' v r => ⟨_, ⟨row', hr', rfl⟩, ?_⟩⟩
        have e := set_map hrowD s.held t row' ht
        have r : Dp K F' v (.tuple (withD (s.held.map hrowD) t (hrowD row'))) := r
        rw [e] at r
        exact r
    · rintro F H vs sh hv
      match vs, hv with
      | [v1, v2, v3, v4, v5], ⟨r1, r2, r3, ⟨d, ⟨row', ⟨hr1, hr2⟩, ed⟩, r4⟩, r5, _⟩ =>
        subst ed
        exact ⟨_, ⟨{ s with col := col', held := s.held.set t row' }, rfl, row, srow, x, ch, row', hrow, hsr, hx, hch, hr1, hr2, rfl⟩, .cons r1 (.cons r2 (.cons r3 (.cons r4 (.cons r5 .nil))))⟩
end Sr
/-! the walk: store -/
namespace Sr
open PySem PySem.Spec PyProof.Rows L2 Dl Sb
variable {P : Program} {w : World} {K : PySem.W.Frag} {mg : Str → Option Value} {base : Heap}
structure StoreI extends StpI where
  t : Nat
  h : Nat
  u : Nat
  v : Option Nat
abbrev FStore (P : Program) (w : World) (K : PySem.W.Frag) (mg : Str → Option Value) (base : Heap) : Prop :=
  FnD P w K mg base 2 "_law_store" (fun i : StoreI => (∀ m ∈ i.M, m.ok = true) ∧ i.s.Ok 5 ∧ Can i.s (.store i.t i.h i.u i.v)) (fun i => [Dat K (tabD i.M i.rs), Dat K (staD i.s), Dat K (stpD (.store i.t i.h i.u i.v))])
    (fun i => ExD K (AfterD i.toStpI (.store i.t i.h i.u i.v)))
def encW (p : Who × Option Nat) : PyData := .tuple [.str (whoS p.1), oD p.2]
def lat (g : Who → Bool) (col : List C) (ps : List (Who × Option Nat)) : List C := ps.foldl (fun c p => shade1 (g p.1) p.2 c) col
theorem lat_len (g : Who → Bool) : ∀ (ps : List (Who × Option Nat)) (col : List C), (lat g col ps).length = col.length
  | [], _ => rfl
  | p :: ps, col => by
    show (lat g (shade1 (g p.1) p.2 col) ps).length = _
    rw [lat_len g ps, shade1_len]
theorem lat_snoc (g : Who → Bool) (ps : List (Who × Option Nat)) (p : Who × Option Nat) (col : List C) : lat g col (ps ++ [p]) = shade1 (g p.1) p.2 (lat g col ps) := by
  unfold lat
  rw [List.foldl_append]
  rfl
theorem f_store (B : Bi mg) (D : DefAt K mg "_law_store" s_l_store) (FW : FWith P w K mg base) (FK : FKind P w K mg base) : FStore P w K mg base :=
  def_D D S_l_store (fun f fd F => F.binds fun _ _ _ _ _ _ us hl => match us, hl with | [_, _, _], _ => rfl) (fun _ => inferInstance) (fun _ => rfl) fun f cdv A outer s0 H E hr ⟨⟨M, rs, s⟩, t, h, u, v⟩ ⟨okM, o, can⟩ => by
    have hu := hu65 hr
    have hu' := hu64 hr
    have o : s.Ok 5 := o
    have okM : ∀ m ∈ M, m.ok = true := okM
    obtain ⟨row, srow, old, hrow, hhr, hsr, hx, hv⟩ := can
    have hrow : s.held[t]? = some row := hrow
    have hsr : s.slots[h]? = some srow := hsr
    have hx : srow[u]? = some old := hx
    have hv : ∀ y, v = some y → y ∈ row := hv
    have hh : h < s.slots.length := (List.getElem?_eq_some_iff.mp hsr).1
    have hul : u < srow.length := (List.getElem?_eq_some_iff.mp hx).1
    obtain ⟨ch, hch, hch2⟩ := col_at o hh
    have ht : t < s.held.length := (List.getElem?_eq_some_iff.mp hrow).1
    have hn : s.slots.length ≤ 9 := o.n
    have hlc := o.lc
    have hsw : srow.length = s.w := (o.row srow (List.mem_of_getElem? hsr)).1
    have hw2 := o.w2
    have hol : ∀ y, old = some y → y < s.slots.length := fun y e => o.slot hsr (by rw [hx, e])
    have hvl : ∀ y, v = some y → y < s.slots.length := fun y e => o.hold hrow (hv y e)
    refine ss_to [.is (Dat K (tabD M rs)), .is (Dat K (staD s)), .is (Dat K (stpD (.store t h u v))), .no, .no, .no, .no, .no, .no, .no, .no, .no, .no, .no, .no, .no, .no, .no, .no] ?_
    refine ss_c (s_asg (e_v 1) (pg_tup rfl (pgs_cons (pg_name (i := 3) S_l_store.nd rfl (.inl rfl)) (pgs_cons (pg_name (i := 4) S_l_store.nd rfl (.inl rfl)) (pgs_cons (pg_name (i := 5) S_l_store.nd rfl (.inr rfl)) (pgs_cons (pg_name (i := 6) S_l_store.nd rfl (.inl rfl)) (pgs_cons (pg_name (i := 7) S_l_store.nd rfl (.inl rfl)) pgs_nil))))))
      (tg_tup (tgs_cons 3 (tgs_cons 4 (tgs_cons 5 (tgs_cons 6 (tgs_cons 7 tgs_nil))))))) ?_
    refine ss_c (s_asg (e_v 2) (pg_tup rfl (pgs_cons (pg_name (i := 8) S_l_store.nd rfl (.inl rfl)) (pgs_cons (pg_name (i := 9) S_l_store.nd rfl (.inl rfl)) (pgs_cons (pg_name (i := 10) S_l_store.nd rfl (.inl rfl)) (pgs_cons (pg_name (i := 11) S_l_store.nd rfl (.inl rfl)) (pgs_cons (pg_name (i := 12) S_l_store.nd rfl (.inl rfl)) pgs_nil))))))
      (tg_tup (tgs_cons 8 (tgs_cons 9 (tgs_cons 10 (tgs_cons 11 (tgs_cons 12 tgs_nil))))))) ?_
    let E1 : Ent → Ent → Ent → List Ent := fun oe le ke => [.is (Dat K (tabD M rs)), .is (Dat K (staD s)), .is (Dat K (stpD (.store t h u v))), .is (Dat K (.int s.w)), .is (Dat K (.tuple (s.slots.map rowD))), .is (Dat K (.tuple (s.col.map cD))), .is (Dat K (.tuple (s.held.map hrowD))), .is (Dat K (.tuple (s.sc.map .bool))), .is (Dat K (.str "store")), .is (Dat K (nD t)), .is (Dat K (nD h)), .is (Dat K (nD u)), .is (Dat K (oD v)), oe, le, ke, .no, .no, .no]
    refine ss_to (E1 .no .no .no) ?_
    refine ss_c (s_par 13 14 (p_is (e_ixT (d := oD old) (i := (u : Nat)) (e_ixT (d := rowD srow) (i := (h : Nat)) (e_v 4) (e_v 10) (by omega) (map_at hsr)) (e_v 11) (by omega) (map_at (f := oD) hx)) (p_is (e_v 5) p_nil)) rfl S_l_store.nd) ?_
    refine ss_to (E1 (.is (Dat K (oD old))) (.is (Dat K (.tuple (s.col.map cD)))) .no) ?_
    -- the kinds
    refine ss_c (s_setL1 15 (e_isL (e_catL (e_trk (e_lst (d_cons (e_ixT (d := cD ch) (i := (h : Nat)) (e_v 5) (e_v 10) (by omega) hch2) d_nil))) (e_trk (e_lc0 (f := fun oo => .str (ocS (colOf s oo))) (own := [("_law_one", 18)]) (enc := oD) (xs := [old, v]) rfl S_l_store.nd (i_tup (e_tup (d_cons (e_v 13) (d_cons (e_v 12) d_nil)))) (blkOk_by (N := N_l_store) (sc := defScope s_l_store) (by decide +kernel)) (fun _ _ _ _ _ => pg_name (i := 18) S_l_store.nd rfl (.inl rfl)) (fun x _ => tg_name 18 _) (by simp)
      (fun x hxm _ _ _ _ _ => ?_) (by simp))) (by simp)) (show _ = [cD ch, .str (ocS (colOf s old)), .str (ocS (colOf s v))] from rfl)) S_l_store.nd) ?_
    · have hxl : ∀ y, x = some y → y < s.slots.length := fun y e => by
        simp only [List.mem_cons, List.not_mem_nil, or_false] at hxm
        rcases hxm with z | z
        · exact hol y (z ▸ e)
        · exact hvl y (z ▸ e)
      refine e_if (t_isN (e_v 18) e_non (nomark _)) (fun hc => e_is e_str ?_) (fun hc => ?_)
      · cases x with
        | none => rfl
        | some y => cases hc
      · cases x with
        | none => cases hc
        | some y =>
          obtain ⟨cy, hy1, hy2⟩ := col_at o (hxl y rfl)
          exact e_is (e_ixT (d := cD cy) (i := (y : Nat)) (e_v 5) (e_v 18) (by omega) hy2) (by unfold colOf; rw [Option.bind_some, hy1]; rfl)
    let ke : Ent := .own [cD ch, .str (ocS (colOf s old)), .str (ocS (colOf s v))]
    let g : Who → Bool := fun wh => (tabOf M rs).so (s.scOf t) ch (colOf s old) (colOf s v) wh
    let xs : List (Who × Option Nat) := [(.holder, some h), (.old, old), (.new, v)]
    have hxs : ∀ p ∈ xs, ∀ y, p.2 = some y → y < s.slots.length := fun p hp y e => by
      simp only [xs, List.mem_cons, List.not_mem_nil, or_false] at hp
      rcases hp with rfl | rfl | rfl
      · cases e; exact hh
      · exact hol y e
      · exact hvl y e
    refine ss_cons (s_forA (α := Unit) (fun i _ => E1 (.is (Dat K (oD old))) (.is (Dat K (.tuple ((lat g s.col (xs.take i)).map cD)))) ke) (fun _ _ => True) () (xs := xs) (enc := encW) rfl (i_tup (e_tup (d_cons (e_tup (d_cons e_str (d_cons (e_v 10) d_nil))) (d_cons (e_tup (d_cons e_str (d_cons (e_v 13) d_nil))) (d_cons (e_tup (d_cons e_str (d_cons (e_v 12) d_nil))) d_nil))) (by show (3 : Nat) ≤ 100000; decide)))
      (pg_tup rfl (pgs_cons (pg_name (i := 16) S_l_store.nd rfl (.inl rfl)) (pgs_cons (pg_name (i := 17) S_l_store.nd rfl (.inl rfl)) pgs_nil))) (fun p _ => tg_pair 16 17 _ _) (WkL.refl _) trivial ?_ PassesOwn.never) ?_
    · rintro i ⟨wh, no⟩ _ hp _
      have et : xs.take (i + 1) = xs.take i ++ [(wh, no)] := by rw [List.take_add_one, hp]; rfl
      have hm : (wh, no) ∈ xs := List.mem_of_getElem? hp
      have ll : (lat g s.col (xs.take i)).length = s.slots.length := by rw [lat_len, o.lc]
      refine ss_one (s_if (c := decide (Mk.so (s.scOf t) ch (colOf s old) (colOf s v) wh ∈ M)) (t_is (t_inT (ds := M.map mkD) (d := mkD (.so (s.scOf t) ch (colOf s old) (colOf s v) wh)) hu
        (e_tup (d_cons e_str (d_cons (e_call FK (s, t) (by show t < s.sc.length; rw [o.ls, ← o.lh]; exact ht) hr (a_cons (e_v 1) (a_cons (e_v 9) a_nil))) (d_cons (e_ixL (d := cD ch) (e_lsdT (e_o 15)) e_int (by decide) rfl) (d_cons (e_ixL (d := .str (ocS (colOf s old))) (e_lsdT (e_o 15)) e_int (by decide) rfl) (d_cons (e_ixL (d := .str (ocS (colOf s v))) (e_lsdT (e_o 15)) e_int (by decide) rfl) (d_cons (e_v 16) d_nil)))))))
        (e_ixT (d := .tuple (M.map mkD)) (e_v 0) e_int (by decide) rfl) (shaped_of (shd_mk _) (by decide)) (shaped_of (shd_tup (shd_map _ shd_mk)) (by decide))) (any_mk M _)) (fun hg => ?_) (fun hg => ?_))
      · have hin := of_decide_eq_true hg
        have hok := okM _ hin
        obtain ⟨y, hy⟩ : ∃ y, no = some y := by
          simp only [xs, List.mem_cons, List.not_mem_nil, or_false, Prod.mk.injEq] at hm
          rcases hm with ⟨rfl, rfl⟩ | ⟨rfl, rfl⟩ | ⟨rfl, rfl⟩
          · exact ⟨h, rfl⟩
          · cases no with
            | none => simp [Mk.ok, colOf] at hok
            | some y => exact ⟨y, rfl⟩
          · cases no with
            | none => simp [Mk.ok, colOf] at hok
            | some y => exact ⟨y, rfl⟩
        subst hy
        have hyl := hxs _ hm y rfl
        refine ss_end (ss_one (s_set 14 (e_is (e_call FW ((lat g s.col (xs.take i)).map cD, y, .str "grey") (by show ((lat g s.col (xs.take i)).map cD).length ≤ 1000; rw [List.length_map]; omega) hr (a_cons (e_v 14) (a_cons (e_v 17) (a_cons e_str a_nil)))) (congrArg PyData.tuple (set_map cD (lat g s.col (xs.take i)) y .grey (by omega)))) S_l_store.nd)) ⟨(), trivial, ?_⟩
        have e : lat g s.col (xs.take (i + 1)) = (lat g s.col (xs.take i)).set y .grey := by
          rw [et, lat_snoc]
          show shade1 (g wh) (some y) _ = _
          have : g wh = true := hg
          rw [this]
          rfl
        show WkL _ (E1 _ (.is (Dat K (.tuple ((lat g s.col (xs.take (i + 1))).map cD)))) ke)
        rw [e]
        exact .same (.same (.same (.same (.same (.same (.same (.same (.same (.same (.same (.same (.same (.same (.same (.same (.drop (.drop (.same .nil))))))))))))))))))
      · refine ss_end ss_nil ⟨(), trivial, ?_⟩
        have e : lat g s.col (xs.take (i + 1)) = lat g s.col (xs.take i) := by
          rw [et, lat_snoc]
          have : g wh = false := hg
          show shade1 (g wh) no _ = _
          rw [this]
          cases no <;> rfl
        show WkL _ (E1 _ (.is (Dat K (.tuple ((lat g s.col (xs.take (i + 1))).map cD)))) ke)
        rw [e]
        exact .same (.same (.same (.same (.same (.same (.same (.same (.same (.same (.same (.same (.same (.same (.same (.same (.drop (.drop (.same .nil))))))))))))))))))
    rintro e ⟨_, _, wk⟩
    refine ss_pre wk (ss_one (s_ret (e_toG (e_tup (d_cons (e_v 3) (d_cons (e_is (e_call FW (s.slots.map rowD, h, rowD (srow.set u v)) (by show (s.slots.map rowD).length ≤ 1000; rw [List.length_map]; omega) hr (a_cons (e_v 4) (a_cons (e_v 10) (a_cons (e_is (e_call FW (srow.map oD, u, oD v) (by show (srow.map oD).length ≤ 1000; rw [List.length_map]; omega) hr (a_cons (e_ixT (d := rowD srow) (i := (h : Nat)) (e_v 4) (e_v 10) (by omega) (map_at hsr)) (a_cons (e_v 11) (a_cons (e_v 12) a_nil)))) (congrArg PyData.tuple (set_map oD srow u v hul))) a_nil)))) (congrArg PyData.tuple (set_map rowD s.slots h (srow.set u v) hh))) (d_cons (e_v 14) (d_cons (e_v 6) (d_cons (e_v 7) d_nil)))))) ?_)))
    exact ⟨{ s with slots := s.slots.set h (srow.set u v), col := stored (tabOf M rs) s t h ch old v }, rfl, srow, old, ch, hsr, hx, hch, rfl⟩
end Sr
/-! the walk: own_after -/
namespace Sr
open PySem PySem.Spec PyProof.Rows L2 Dl Sb
variable {P : Program} {w : World} {K : PySem.W.Frag} {mg : Str → Option Value} {base : Heap}
structure AftI extends StpI where
  p : Stp
def tagS : Stp → Str
  | .load _ _ _ => "load"
  | .store _ _ _ _ => "store"
  | .drop _ _ => "drop"
  | .new _ => "new"
  | .visit _ => "visit"
  | .scan _ => "scan"
abbrev FAfter (P : Program) (w : World) (K : PySem.W.Frag) (mg : Str → Option Value) (base : Heap) : Prop :=
  FnD P w K mg base 3 "_law_own_after" (fun i : AftI => (∀ m ∈ i.M, m.ok = true) ∧ i.s.Ok 5 ∧ Can i.s i.p) (fun i => [Dat K (tabD i.M i.rs), Dat K (staD i.s), Dat K (stpD i.p)])
    (fun i => ExD K (AfterD i.toStpI i.p))
theorem shd_tag : ∀ p : Stp, Shd 1 (.str (tagS p))
  | .load _ _ _ => shd_str (x := "load") (by decide +kernel)
  | .store _ _ _ _ => shd_str (x := "store") (by decide +kernel)
  | .drop _ _ => shd_str (x := "drop") (by decide +kernel)
  | .new _ => shd_str (x := "new") (by decide +kernel)
  | .visit _ => shd_str (x := "visit") (by decide +kernel)
  | .scan _ => shd_str (x := "scan") (by decide +kernel)
theorem grey_take {col : List C} {ns : List Nat} {i x : Nat} (h : ns[i]? = some x) : greyed (ns.take (i + 1)) col = if (greyed (ns.take i) col)[x]? = some .white then (greyed (ns.take i) col).set x .grey else greyed (ns.take i) col := by
  have e : ns.take (i + 1) = ns.take i ++ [x] := by rw [List.take_add_one, h]; rfl
  rw [e]
  unfold greyed
  rw [List.foldl_append]
  rfl
set_option maxHeartbeats 1000000 in
theorem f_after (B : Bi mg) (D : DefAt K mg "_law_own_after" s_l_own_after) (FW : FWith P w K mg base) (FK : FKind P w K mg base) (FL : FLoad P w K mg base) (FS : FStore P w K mg base) : FAfter P w K mg base :=
  def_D D S_l_own_after (fun f fd F => F.binds fun _ _ _ _ _ _ us hl => match us, hl with | [_, _, _], _ => rfl) (fun _ => inferInstance) (fun _ => rfl) fun f cdv A outer s0 H E hr ⟨⟨M, rs, s⟩, p⟩ ⟨okM, o, can⟩ => by
    have hu := hu65 hr
    have hu' := hu64 hr
    have o : s.Ok 5 := o
    have okM : ∀ m ∈ M, m.ok = true := okM
    have can : Can s p := can
    have hn : s.slots.length ≤ 9 := o.n
    have hlc := o.lc
    have hlh := o.lh
    have hls := o.ls
    have hw1 : 1 ≤ s.w := o.w1
    have hw2 : s.w ≤ 2 := o.w2
    have R1 : ∀ {s' : Sta} {F H : Hp} {v : V}, After (tabOf M rs) s p s' → Dat K (staD s') F H v → ExD K (AfterD ⟨M, rs, s⟩ p) F H v := fun h r => ⟨_, ⟨_, rfl, h⟩, r⟩
    have hr1 : Room 1 (A.deeper (envOfC "_law_own_after" (defScope s_l_own_after) s0.heap.objs.size f cdv)) := hr.mono (by decide)
    refine ss_to [.is (Dat K (tabD M rs)), .is (Dat K (staD s)), .is (Dat K (stpD p)), .no, .no, .no, .no, .no, .no, .no, .no, .no, .no] ?_
    refine ss_c (s_asg (e_v 1) (pg_tup rfl (pgs_cons (pg_name (i := 3) S_l_own_after.nd rfl (.inl rfl)) (pgs_cons (pg_name (i := 4) S_l_own_after.nd rfl (.inl rfl)) (pgs_cons (pg_name (i := 5) S_l_own_after.nd rfl (.inl rfl)) (pgs_cons (pg_name (i := 6) S_l_own_after.nd rfl (.inl rfl)) (pgs_cons (pg_name (i := 7) S_l_own_after.nd rfl (.inl rfl)) pgs_nil))))))
      (tg_tup (tgs_cons 3 (tgs_cons 4 (tgs_cons 5 (tgs_cons 6 (tgs_cons 7 tgs_nil))))))) ?_
    let E1 : List C → Ent → Ent → Ent → List Ent := fun col ke ce se => [.is (Dat K (tabD M rs)), .is (Dat K (staD s)), .is (Dat K (stpD p)), .is (Dat K (.int s.w)), .is (Dat K (.tuple (s.slots.map rowD))), .is (Dat K (.tuple (col.map cD))), .is (Dat K (.tuple (s.held.map hrowD))), .is (Dat K (.tuple (s.sc.map .bool))), ke, ce, se, .no, .no]
    refine ss_to (E1 s.col .no .no .no) ?_
    have h0 : ∀ p : Stp, ∃ r, stpD p = .tuple (.str (tagS p) :: r) := fun p => by cases p <;> exact ⟨_, rfl⟩
    obtain ⟨ar, har⟩ := h0 p
    have h00 : ∀ (ar : List PyData), (PyData.str (tagS p) :: ar)[((0 : Int)).toNat]? = some (.str (tagS p)) := fun _ => rfl
    -- load
    refine ss_ifr (t_is (t_eq hu' (e_ixT (d := .str (tagS p)) (ds := .str (tagS p) :: ar) (e_is (e_v 2) har) e_int (by decide) (h00 ar)) e_str (shaped_of (shd_tag p) (by decide)) (sh_str (by decide +kernel)) (nomark _)) (eqv_str _ _)) (fun hc => ?_) fun hc1 => ?_
    · cases p with
      | load t h u => exact ss_one (s_ret (e_weak (e_call FL ⟨⟨M, rs, s⟩, t, h, u⟩ ⟨o, can⟩ hr (a_cons (e_v 0) (a_cons (e_v 1) (a_cons (e_v 2) a_nil)))) fun F H v _ r => r))
      | store _ _ _ _ => exact absurd (show decide (("store" : Str) = "load") = true from hc) (by decide)
      | drop _ _ => exact absurd (show decide (("drop" : Str) = "load") = true from hc) (by decide)
      | new _ => exact absurd (show decide (("new" : Str) = "load") = true from hc) (by decide)
      | visit _ => exact absurd (show decide (("visit" : Str) = "load") = true from hc) (by decide)
      | scan _ => exact absurd (show decide (("scan" : Str) = "load") = true from hc) (by decide)
    -- store
    refine ss_ifr (t_is (t_eq hu' (e_ixT (d := .str (tagS p)) (ds := .str (tagS p) :: ar) (e_is (e_v 2) har) e_int (by decide) (h00 ar)) e_str (shaped_of (shd_tag p) (by decide)) (sh_str (by decide +kernel)) (nomark _)) (eqv_str _ _)) (fun hc => ?_) fun hc2 => ?_
    · cases p with
      | store t h u v => exact ss_one (s_ret (e_weak (e_call FS ⟨⟨M, rs, s⟩, t, h, u, v⟩ ⟨okM, o, can⟩ hr (a_cons (e_v 0) (a_cons (e_v 1) (a_cons (e_v 2) a_nil)))) fun F H v _ r => r))
      | load _ _ _ => exact absurd (show decide (("load" : Str) = "store") = true from hc) (by decide)
      | drop _ _ => exact absurd (show decide (("drop" : Str) = "store") = true from hc) (by decide)
      | new _ => exact absurd (show decide (("new" : Str) = "store") = true from hc) (by decide)
      | visit _ => exact absurd (show decide (("visit" : Str) = "store") = true from hc) (by decide)
      | scan _ => exact absurd (show decide (("scan" : Str) = "store") = true from hc) (by decide)
    -- drop
    refine ss_ifr (t_is (t_eq hu' (e_ixT (d := .str (tagS p)) (ds := .str (tagS p) :: ar) (e_is (e_v 2) har) e_int (by decide) (h00 ar)) e_str (shaped_of (shd_tag p) (by decide)) (sh_str (by decide +kernel)) (nomark _)) (eqv_str _ _)) (fun hc => ?_) fun hc3 => ?_
    · cases p with
      | drop t x =>
        obtain ⟨row, hrow, hxr⟩ := can
        have ht : t < s.held.length := (List.getElem?_eq_some_iff.mp hrow).1
        have hr9 : row.length ≤ 9 := (o.hb row (List.mem_of_getElem? hrow)).1
        refine ss_c (s_set 8 (e_tuple B.tuple (e_lsdT (e_trk (e_lc (c := fun y => decide (y ≠ x)) (f := nD) (own := [("_law_one", 12)]) (enc := nD) (xs := row) rfl S_l_own_after.nd (i_tup (e_ixT (d := hrowD row) (i := (t : Nat)) (e_v 6) (e_ixT (d := nD t) (ds := [.str "drop", nD t, nD x]) (e_v 2) e_int (by decide) rfl) (by omega) (map_at hrow))) (blkOk_by (N := N_l_own_after) (sc := defScope s_l_own_after) (by decide +kernel)) (fun _ _ _ _ _ => pg_name (i := 12) S_l_own_after.nd rfl (.inl rfl)) (fun x _ => tg_name 12 _) (by simp)
          (fun y _ _ _ _ _ _ => ts_one (t_is (t_ne hu' (e_v 12) (e_ixT (d := nD x) (ds := [.str "drop", nD t, nD x]) (e_v 2) e_int (by decide) rfl) (shaped_of (shd_n y) (by decide)) (shaped_of (shd_n x) (by decide)) (nomark _)) ?_)) (fun _ _ _ _ _ _ _ _ => e_v 12) (by omega))))) S_l_own_after.nd) ?_
        · show (!PyData.eqv (.int y) (.int x)) = _
          rw [eqv_int]
          by_cases h : y = x
          · subst h; simp
          · have : ¬ ((y : Int) = x) := by omega
            simp [h, this]
        refine ss_one (s_ret (e_weak (e_tup (d_cons (e_v 3) (d_cons (e_v 4) (d_cons (e_v 5) (d_cons (e_is (e_call FW (s.held.map hrowD, t, hrowD (row.filter fun y => decide (y ≠ x))) (by show (s.held.map hrowD).length ≤ 1000; rw [List.length_map]; omega) hr1 (a_cons (e_v 6) (a_cons (e_ixT (d := nD t) (ds := [.str "drop", nD t, nD x]) (e_v 2) e_int (by decide) rfl) (a_cons (e_v 8) a_nil)))) (congrArg PyData.tuple (set_map hrowD s.held t _ ht))) (d_cons (e_v 7) d_nil)))))) fun F H v _ r => R1 (s' := { s with held := s.held.set t (row.filter fun y => decide (y ≠ x)) }) ⟨row, hrow, rfl⟩ r))
      | store _ _ _ _ => exact absurd (show decide (("store" : Str) = "drop") = true from hc) (by decide)
      | load _ _ _ => exact absurd (show decide (("load" : Str) = "drop") = true from hc) (by decide)
      | new _ => exact absurd (show decide (("new" : Str) = "drop") = true from hc) (by decide)
      | visit _ => exact absurd (show decide (("visit" : Str) = "drop") = true from hc) (by decide)
      | scan _ => exact absurd (show decide (("scan" : Str) = "drop") = true from hc) (by decide)
    -- new
    refine ss_ifr (t_is (t_eq hu' (e_ixT (d := .str (tagS p)) (ds := .str (tagS p) :: ar) (e_is (e_v 2) har) e_int (by decide) (h00 ar)) e_str (shaped_of (shd_tag p) (by decide)) (sh_str (by decide +kernel)) (nomark _)) (eqv_str _ _)) (fun hc => ?_) fun hc4 => ?_
    · cases p with
      | new t =>
        have ht : t < s.held.length := can
        have hrow : s.held[t]? = some s.held[t] := List.getElem?_eq_getElem ht
        generalize s.held[t] = row at hrow
        have hr9 : row.length ≤ 9 := (o.hb row (List.mem_of_getElem? hrow)).1
        let nc : C := if (tabOf M rs).nw (s.scOf t) = true then .black else .white
        refine ss_c (s_set 9 (e_if (R := Dat K (cD nc)) (t_is (t_inT (ds := M.map mkD) (d := mkD (.nw (s.scOf t))) hu (e_tup (d_cons e_str (d_cons (e_call FK (s, t) (by show t < s.sc.length; omega) hr1 (a_cons (e_v 1) (a_cons (e_ixT (d := nD t) (ds := [.str "new", nD t]) (e_v 2) e_int (by decide) rfl) a_nil))) d_nil)))
          (e_ixT (d := .tuple (M.map mkD)) (e_v 0) e_int (by decide) rfl) (shaped_of (shd_mk _) (by decide)) (shaped_of (shd_tup (shd_map _ shd_mk)) (by decide))) (any_mk M (.nw (s.scOf t)))) (fun hg => e_is e_str ?_) (fun hg => e_is e_str ?_)) S_l_own_after.nd) ?_
        · show cD .black = cD (if (tabOf M rs).nw (s.scOf t) = true then .black else .white)
          rw [if_pos (show (tabOf M rs).nw (s.scOf t) = true from hg)]
        · show cD .white = cD (if (tabOf M rs).nw (s.scOf t) = true then .black else .white)
          rw [if_neg (show ¬ (tabOf M rs).nw (s.scOf t) = true from fun z => by rw [show (tabOf M rs).nw (s.scOf t) = false from hg] at z; cases z)]
        refine ss_c (s_set 8 (e_is (e_call FW (s.held.map hrowD, t, hrowD (row ++ [s.slots.length])) (by show (s.held.map hrowD).length ≤ 1000; rw [List.length_map]; omega) hr1 (a_cons (e_v 6) (a_cons (e_ixT (d := nD t) (ds := [.str "new", nD t]) (e_v 2) e_int (by decide) rfl) (a_cons (e_is (e_cat (ds := row.map nD) (ds' := [nD s.slots.length]) (e_ixT (d := hrowD row) (i := (t : Nat)) (e_v 6) (e_ixT (d := nD t) (ds := [.str "new", nD t]) (e_v 2) e_int (by decide) rfl) (by omega) (map_at hrow)) (e_tup (d_cons (e_is (e_len B.len (e_sqd (e_v 4))) (by rw [List.length_map]; rfl)) d_nil)) (by simp; omega)) (by unfold hrowD; rw [List.map_append]; rfl)) a_nil)))) (congrArg PyData.tuple (set_map hrowD s.held t _ ht))) S_l_own_after.nd) ?_
        refine ss_one (s_ret (e_toG (e_tup (d_cons (e_v 3) (d_cons (e_is (e_cat (ds := s.slots.map rowD) (ds' := [rowD (List.replicate s.w none)]) (e_v 4) (e_tup (d_cons (e_is (e_repW (d := .none) (w := s.w) (e_tup (d_cons e_non d_nil)) (e_v 3) hw1 (by omega)) (by unfold rowD; rw [List.map_replicate]; rfl)) d_nil)) (by simp; omega)) (show _ = PyData.tuple ((s.slots ++ [List.replicate s.w none]).map rowD) by rw [List.map_append]; rfl)) (d_cons (e_is (e_cat (ds := s.col.map cD) (ds' := [cD nc]) (e_v 5) (e_tup (d_cons (e_v 9) d_nil)) (by simp; omega)) (show _ = PyData.tuple ((s.col ++ [nc]).map cD) by rw [List.map_append]; rfl)) (d_cons (e_v 8) (d_cons (e_v 7) d_nil)))))) ⟨{ s with slots := s.slots ++ [List.replicate s.w none], col := s.col ++ [nc], held := s.held.set t (row ++ [s.slots.length]) }, rfl, row, hrow, rfl⟩))
      | store _ _ _ _ => exact absurd (show decide (("store" : Str) = "new") = true from hc) (by decide)
      | load _ _ _ => exact absurd (show decide (("load" : Str) = "new") = true from hc) (by decide)
      | drop _ _ => exact absurd (show decide (("drop" : Str) = "new") = true from hc) (by decide)
      | visit _ => exact absurd (show decide (("visit" : Str) = "new") = true from hc) (by decide)
      | scan _ => exact absurd (show decide (("scan" : Str) = "new") = true from hc) (by decide)
    -- visit, scan: whose slots
    have hsome : ∃ (row : List (Option Nat)), row.length ≤ 9 ∧ (∀ y, some y ∈ row → y < s.slots.length) ∧ ((∃ t r, p = .visit t ∧ s.held[t]? = some r ∧ row = r.map some) ∨ ∃ x, p = .scan x ∧ s.slots[x]? = some row) := by
      cases p with
      | load _ _ _ => exact absurd (show decide (("load" : Str) = "load") = false from hc1) (by decide)
      | store _ _ _ _ => exact absurd (show decide (("store" : Str) = "store") = false from hc2) (by decide)
      | drop _ _ => exact absurd (show decide (("drop" : Str) = "drop") = false from hc3) (by decide)
      | new _ => exact absurd (show decide (("new" : Str) = "new") = false from hc4) (by decide)
      | visit t =>
        have ht : t < s.held.length := can
        have hrow : s.held[t]? = some s.held[t] := List.getElem?_eq_getElem ht
        obtain ⟨b1, b2⟩ := o.hb _ (List.mem_of_getElem? hrow)
        refine ⟨_, by rw [List.length_map]; exact b1, fun y hy => ?_, .inl ⟨t, _, rfl, hrow, rfl⟩⟩
        obtain ⟨z, hz, e⟩ := List.mem_map.mp hy
        cases e
        exact b2 y hz
      | scan x =>
        have hx : s.col[x]? = some .grey := can
        have hxl : x < s.slots.length := by rw [← hlc]; exact (List.getElem?_eq_some_iff.mp hx).1
        have hrow : s.slots[x]? = some s.slots[x] := List.getElem?_eq_getElem hxl
        obtain ⟨b1, b2⟩ := o.row _ (List.mem_of_getElem? hrow)
        have b1 : s.slots[x].length = s.w := b1
        exact ⟨_, by omega, b2, .inr ⟨x, rfl, hrow⟩⟩
    obtain ⟨row, hr9, hrl, hwho⟩ := hsome
    have tv : decide (tagS p = "visit") = true → ∃ t r, p = .visit t ∧ s.held[t]? = some r ∧ row = r.map some := fun h => by
      rcases hwho with z | ⟨x, rfl, _⟩
      · exact z
      · exact absurd (show decide (("scan" : Str) = "visit") = true from h) (by decide)
    have tsc : decide (tagS p = "visit") = false → ∃ x, p = .scan x ∧ s.slots[x]? = some row := fun h => by
      rcases hwho with ⟨t, r, rfl, _⟩ | z
      · exact absurd (show decide (("visit" : Str) = "visit") = false from h) (by decide)
      · exact z
    let ns : List Nat := row.filterMap id
    have hns : ns.length ≤ 9 := Nat.le_trans (List.length_filterMap_le _ _) hr9
    have hnl : ∀ y ∈ ns, y < s.slots.length := fun y hy => by
      obtain ⟨z, hz, e⟩ := List.mem_filterMap.mp hy
      have e : z = some y := e
      subst e
      exact hrl y hz
    refine ss_c (s_set 10 (e_if (R := Dat K (.tuple (row.map oD))) (t_is (t_eq hu' (e_ixT (d := .str (tagS p)) (ds := .str (tagS p) :: ar) (e_is (e_v 2) har) e_int (by decide) (h00 ar)) e_str (shaped_of (shd_tag p) (by decide)) (sh_str (by decide +kernel)) (nomark _)) (eqv_str _ _)) (fun h => ?_) (fun h => ?_)) S_l_own_after.nd) ?_
    · obtain ⟨t, r, rfl, h1, rfl⟩ := tv h
      exact e_is (e_ixT (d := hrowD r) (i := (t : Nat)) (e_v 6) (e_ixT (d := nD t) (ds := [.str "visit", nD t]) (e_v 2) e_int (by decide) rfl) (by omega) (map_at h1)) (by unfold hrowD; rw [List.map_map]; rfl)
    · obtain ⟨x, rfl, h1⟩ := tsc h
      exact e_ixT (d := rowD row) (i := (x : Nat)) (e_v 4) (e_ixT (d := nD x) (ds := [.str "scan", nD x]) (e_v 2) e_int (by decide) rfl) (by omega) (map_at h1)
    refine ss_to (E1 s.col .no .no (.is (Dat K (.tuple (row.map oD))))) ?_
    refine ss_cons (s_forA (α := Unit) (fun i _ => E1 (greyed (ns.take i) s.col) .no .no (.is (Dat K (.tuple (row.map oD))))) (fun _ _ => True) () (xs := ns) (enc := nD) rfl (i_lst (e_datL (e_isL (e_lc (c := fun o => !isNon (oD o)) (f := oD) (own := [("_law_one", 12)]) (enc := oD) (xs := row) rfl S_l_own_after.nd (i_tup (e_v 10)) (blkOk_by (N := N_l_own_after) (sc := defScope s_l_own_after) (by decide +kernel)) (fun _ _ _ _ _ => pg_name (i := 12) S_l_own_after.nd rfl (.inl rfl)) (fun x _ => tg_name 12 _) (by simp)
          (fun x _ _ _ _ _ _ => ts_one (t_notN (e_v 12) e_non (nomark _))) (fun x _ _ _ _ _ _ _ => e_v 12) (by omega)) (somes_map row)))) (pg_name (i := 11) S_l_own_after.nd rfl (.inl rfl)) (fun x _ => tg_name 11 _) (WkL.refl _) trivial ?_ PassesOwn.never) ?_
    · intro i y _ hy _
      have hyl := hnl y (List.mem_of_getElem? hy)
      have ll : (greyed (ns.take i) s.col).length = s.slots.length := by rw [greyed_len, hlc]
      have hcy : (greyed (ns.take i) s.col)[y]? = some (greyed (ns.take i) s.col)[y] := List.getElem?_eq_getElem (by omega)
      generalize (greyed (ns.take i) s.col)[y] = cy at hcy
      refine ss_end (ss_one (s_set 5 (e_if (R := Dat K (.tuple ((greyed (ns.take (i + 1)) s.col).map cD))) (c := decide (cy = .white)) (t_is (t_eq hu' (e_ixT (d := cD cy) (i := (y : Nat)) (e_v 5) (e_v 11) (by omega) (map_at hcy)) e_str (shaped_of (shd_c cy) (by decide)) (sh_str (by decide +kernel)) (nomark _)) (eqv_c cy .white)) (fun h => ?_) (fun h => ?_)) S_l_own_after.nd)) ⟨(), trivial, .same (.same (.same (.same (.same (.same (.same (.same (.same (.same (.same (.drop (.same .nil))))))))))))⟩
      · have h : cy = .white := of_decide_eq_true h
        refine e_is (e_call FW ((greyed (ns.take i) s.col).map cD, y, .str "grey") (by show ((greyed (ns.take i) s.col).map cD).length ≤ 1000; rw [List.length_map]; omega) hr1 (a_cons (e_v 5) (a_cons (e_v 11) (a_cons e_str a_nil)))) ?_
        rw [grey_take hy, if_pos (by rw [hcy, h])]
        exact congrArg PyData.tuple (set_map cD _ y .grey (by omega))
      · have h : cy ≠ .white := of_decide_eq_false h
        refine e_is (e_v 5) ?_
        rw [grey_take hy, if_neg (by rw [hcy]; exact fun z => h (Option.some.inj z))]
    rintro e ⟨_, _, wk⟩
    refine ss_pre wk ?_
    rw [List.take_length]
    refine ss_ifr (t_is (t_eq hu' (e_ixT (d := .str (tagS p)) (ds := .str (tagS p) :: ar) (e_is (e_v 2) har) e_int (by decide) (h00 ar)) e_str (shaped_of (shd_tag p) (by decide)) (sh_str (by decide +kernel)) (nomark _)) (eqv_str _ _)) (fun h => ?_) (fun h => ?_)
    · obtain ⟨t, r, hp, h1, h2⟩ := tv h
      have ht : t < s.held.length := (List.getElem?_eq_some_iff.mp h1).1
      have hnr : ns = r := by
        show row.filterMap id = r
        rw [h2, List.filterMap_map]
        exact List.filterMap_some
      subst hp
      refine ss_one (s_ret (e_toG (e_tup (d_cons (e_v 3) (d_cons (e_v 4) (d_cons (e_v 5) (d_cons (e_v 6) (d_cons (e_is (e_call FW (s.sc.map .bool, t, .bool true) (by show (s.sc.map PyData.bool).length ≤ 1000; rw [List.length_map]; omega) hr1 (a_cons (e_v 7) (a_cons (e_ixT (d := nD t) (ds := [.str "visit", nD t]) (e_v 2) e_int (by decide) rfl) (a_cons e_bl a_nil)))) (congrArg PyData.tuple (set_map PyData.bool s.sc t true (by omega)))) d_nil)))))) ⟨{ s with col := greyed ns s.col, sc := s.sc.set t true }, rfl, r, h1, by rw [hnr]⟩))
    · obtain ⟨x, hp, h1⟩ := tsc h
      have hxl : x < s.slots.length := (List.getElem?_eq_some_iff.mp h1).1
      subst hp
      refine ss_one (s_ret (e_toG (e_tup (d_cons (e_v 3) (d_cons (e_v 4) (d_cons (e_is (e_call FW ((greyed ns s.col).map cD, x, .str "black") (by show ((greyed ns s.col).map cD).length ≤ 1000; rw [List.length_map, greyed_len]; omega) hr1 (a_cons (e_v 5) (a_cons (e_ixT (d := nD x) (ds := [.str "scan", nD x]) (e_v 2) e_int (by decide) rfl) (a_cons e_str a_nil)))) (congrArg PyData.tuple (set_map cD (greyed ns s.col) x .black (by rw [greyed_len]; omega)))) (d_cons (e_v 6) (d_cons (e_v 7) d_nil)))))) ⟨{ s with col := (greyed ns s.col).set x .black }, rfl, row, h1, rfl⟩))
end Sr
/-! the walk: collects, choices, start, words -/
namespace Dl
open PySem PySem.Spec PyProof.Rows L2
variable {X : Cx} {K : PySem.W.Frag} {es : List Ent} {a b e : Expr} {pos p2 p3 : Pos}
theorem e_notN {d : PyData} (ha : PE X a (tCan K es (Dat K d))) (hb : PE X b (tCan K es (Dat K .none))) (hm : behindInMarks .IsNot b = false) : PE X (.Compare a [.IsNot] [b] pos) (tCan K es (Dat K (.bool (!isNon d)))) :=
  pe_imp (pe_cmpR op_notN ha hb hm) (can2 fun x y F H Q s hx hy k => ⟨dat_non hy, by
    have e : (!decide (x = V.non)) = (!isNon d) := by
      cases hx <;> simp [isNon]
    rw [e]
    exact can_now (R := Dat K (.bool _)) s (Dp.bl _) k⟩)
theorem t_lt {i j : Int} (ha : PE X a (tCan K es (Dat K (.int i)))) (hb : PE X b (tCan K es (Dat K (.int j)))) (hm : behindInMarks .Lt b = false) : PT X (.Compare a [.Lt] [b] pos) (tCanT K es (decide (i < j))) :=
  t_of (pt_cmpR op_lt ha hb hm) (can2 fun x y F H Q s hx hy k => ⟨i, j, dat_int hx, dat_int hy, can_now (R := Dat K (.bool _)) s (Dp.bl _) k⟩)
theorem t_gt {i j : Int} (ha : PE X a (tCan K es (Dat K (.int i)))) (hb : PE X b (tCan K es (Dat K (.int j)))) (hm : behindInMarks .Gt b = false) : PT X (.Compare a [.Gt] [b] pos) (tCanT K es (decide (i > j))) :=
  t_of (pt_cmpR op_gt ha hb hm) (can2 fun x y F H Q s hx hy k => ⟨i, j, dat_int hx, dat_int hy, can_now (R := Dat K (.bool _)) s (Dp.bl _) k⟩)
theorem e_call0 {P : Program} {w : World} {mg : Str → Option Value} {base : Heap} {k : Nat} {x : Str} {ι : Type} {C : ι → Prop} {R : ι → Rel} (F : FnD P w K mg base k x C (fun _ => []) R) (i : ι) (hi : C i) (hr : Room k X.A)
    (x1 : X.prog = P := by rfl) (x2 : X.w = w := by rfl) (x3 : X.K = K := by rfl) (x4 : X.mg = mg := by rfl) (x5 : X.base = base := by rfl) (hg : Gl X x := by rfl) (hdb : (x == ("__debug__" : Str)) = false := by decide) : PE X (.Call (.Name x p2) [] [] pos) (tCan K es (R i)) := by
  subst x1; subst x2; subst x3; subst x4; subst x5
  obtain ⟨f, fd, ps, F, hm, hk, hb⟩ := F.ex
  refine pe_imp (pe_call0 F hr hg hm hk hb .nil pass0 hdb) fun σ H Q ⟨F0, H0, F, S, k⟩ => ?_
  show spD X.K C (fun _ => []) R ([] ++ []) H Q E0
  exact ⟨i, F, hi, S.fh, trivial, fun v F' H' g r => k v F' H' g r⟩
end Dl
namespace Sr
open PySem PySem.Spec PyProof.Rows L2 Dl Sb
variable {P : Program} {w : World} {K : PySem.W.Frag} {mg : Str → Option Value} {base : Heap}
abbrev FCollects (P : Program) (w : World) (K : PySem.W.Frag) (mg : Str → Option Value) (base : Heap) : Prop :=
  FnD P w K mg base 2 "_law_collects" (fun i : StpI => i.s.Ok 5) (fun i => [Dat K (tabD i.M i.rs), Dat K (staD i.s)])
    (fun i => ExD K fun d => ∃ ps : List Stp, d = .list (ps.map stpD) ∧ ps.length ≤ 50 ∧ ∀ p ∈ ps, Can i.s p ∧ p.thr = false)
theorem f_collects (B : Bi mg) (D : DefAt K mg "_law_collects" s_l_collects) (FE : FEnded P w K mg base) : FCollects P w K mg base :=
  def_D D S_l_collects (fun f fd F => F.binds fun _ _ _ _ _ _ us hl => match us, hl with | [_, _], _ => rfl) (fun _ => inferInstance) (fun _ => rfl) fun f cdv A outer s0 H E hr ⟨M, rs, s⟩ o => by
    have hu := hu65 hr
    have hu' := hu64 hr
    have o : s.Ok 5 := o
    have hn : s.slots.length ≤ 9 := o.n
    have hlc := o.lc
    have hlh := o.lh
    have hls := o.ls
    refine ss_to [.is (Dat K (tabD M rs)), .is (Dat K (staD s)), .no, .no, .no, .no, .no, .no, .no, .no, .no, .no, .no] ?_
    refine ss_c (s_asg (e_v 1) (pg_tup rfl (pgs_cons (pg_name (i := 2) S_l_collects.nd rfl (.inl rfl)) (pgs_cons (pg_name (i := 3) S_l_collects.nd rfl (.inl rfl)) (pgs_cons (pg_name (i := 4) S_l_collects.nd rfl (.inr rfl)) (pgs_cons (pg_name (i := 5) S_l_collects.nd rfl (.inl rfl)) (pgs_cons (pg_name (i := 6) S_l_collects.nd rfl (.inl rfl)) pgs_nil))))))
      (tg_tup (tgs_cons 2 (tgs_cons 3 (tgs_cons 4 (tgs_cons 5 (tgs_cons 6 tgs_nil))))))) ?_
    let E1 : Ent → List Ent := fun fo => [.is (Dat K (tabD M rs)), .is (Dat K (staD s)), .is (Dat K (.int s.w)), .is (Dat K (.tuple (s.slots.map rowD))), .is (Dat K (.tuple (s.col.map cD))), .is (Dat K (.tuple (s.held.map hrowD))), .is (Dat K (.tuple (s.sc.map .bool))), fo, .no, .no, .no, .no, .no]
    refine ss_to (E1 .no) ?_
    refine ss_ifr (t_val (e_call FE (rs, s) o hr (a_cons (e_ixT (d := .bool rs) (ds := [.tuple (M.map mkD), .bool rs]) (e_v 0) e_int (by decide) rfl) (a_cons (e_v 1) a_nil)))) (fun _ => ss_one (s_ret (e_toG (e_datL (e_lst d_nil)) ⟨[], rfl, by simp, fun p h => (by cases h)⟩))) fun _ => ?_
    let ps0 : List Stp := (s.col.zipIdx.filter fun p => decide (p.1 = .grey)).map fun p => .scan p.2
    have hps0 : ps0.length ≤ 9 := by
      show (List.map _ _).length ≤ 9
      rw [List.length_map]
      refine Nat.le_trans (List.length_filter_le _ _) ?_
      rw [List.length_zipIdx]
      omega
    have hcan0 : ∀ p ∈ ps0, Can s p ∧ p.thr = false := fun p hp => by
      obtain ⟨q, hq, rfl⟩ := List.mem_map.mp hp
      obtain ⟨h1, h2⟩ := List.mem_filter.mp hq
      obtain ⟨j, hj⟩ := List.getElem?_of_mem h1
      obtain ⟨z1, z2⟩ := zip_at hj
      refine ⟨?_, rfl⟩
      show s.col[q.2]? = some .grey
      rw [z2, z1, of_decide_eq_true h2]
    refine ss_c (s_lc 7 (c := fun p => decide (p.1 = .grey)) (f := fun p => stpD (.scan p.2)) (own := [("_law_number", 10), ("_law_colour", 11)]) (xs := s.col.zipIdx) (ds := ps0.map stpD) (by show _ = (List.map _ (List.filter _ _)).map stpD; rw [List.map_map]; rfl) rfl S_l_collects.nd (i_enum (xs := s.col) (enc := cD) B.enumerate (d_cons (e_v 4) d_nil)) (blkOk_by (N := N_l_collects) (sc := defScope s_l_collects) (by decide +kernel))
      (fun _ _ _ _ _ => pg_tup rfl (pgs_cons (pg_name (i := 10) S_l_collects.nd rfl (.inl rfl)) (pgs_cons (pg_name (i := 11) S_l_collects.nd rfl (.inl rfl)) pgs_nil))) (fun p _ => tg_pair 10 11 _ _) (by simp)
      (fun p _ _ _ _ _ _ => ts_one (t_is (t_eq hu' (e_v 11) e_str (shaped_of (shd_c _) (by decide)) (sh_str (by decide +kernel)) (nomark _)) (eqv_c p.1 .grey))) (fun p _ _ _ _ _ _ _ => e_tup (d_cons e_str (d_cons (e_v 10) d_nil))) (by rw [List.length_zipIdx]; omega)) ?_
    refine ss_to (E1 (.own (ps0.map stpD))) ?_
    refine ss_cons (s_forA (α := List Stp) (fun _ ps => E1 (.own (ps.map stpD))) (fun i ps => ps.length ≤ 9 + i ∧ ∀ p ∈ ps, Can s p ∧ p.thr = false) ps0 (xs := s.held.zipIdx) rfl (i_enum (xs := s.held) (enc := hrowD) B.enumerate (d_cons (e_v 5) d_nil))
      (pg_tup rfl (pgs_cons (pg_name (i := 8) S_l_collects.nd rfl (.inl rfl)) (pgs_cons (pg_name (i := 9) S_l_collects.nd rfl (.inl rfl)) pgs_nil))) (fun p _ => tg_pair 8 9 _ _) (WkL.refl _) ⟨hps0, hcan0⟩ ?_ PassesOwn.never) ?_
    · rintro i ⟨row, i'⟩ ps hp ⟨hl, hps⟩
      obtain ⟨hrow, hj⟩ := zip_at hp
      have hj : i' = i := hj
      subst hj
      have hrow : s.held[i']? = some row := hrow
      have hi2 : i' < s.held.length := (List.getElem?_eq_some_iff.mp hrow).1
      obtain ⟨hr9, hrl⟩ := o.hb row (List.mem_of_getElem? hrow)
      have hsc : s.sc[i']? = some (s.scOf i') := by
        have hi3 : i' < s.sc.length := by omega
        unfold Sta.scOf
        rw [List.getD_eq_getElem?_getD, List.getElem?_eq_getElem hi3]
        rfl
      refine ss_one (s_if (c := !s.scOf i' || (rs && row.any fun x => decide (s.col[x]? = some .white))) (PW.pt (w_or (t_not (t_val (e_ixT (d := .bool (s.scOf i')) (i := (i' : Nat)) (e_v 6) (e_v 8) (by omega) (map_at hsc)))) fun _ => w_or1 (PW.pt (w_and (t_val (e_ixT (d := .bool rs) (ds := [.tuple (M.map mkD), .bool rs]) (e_v 0) e_int (by decide) rfl)) fun _ => w_and1 (t_val (e_any (p := fun x => decide (s.col[x]? = some .white)) (xs := row) rfl B.any
        (e_lsdT (e_trk (e_lc0 (own := [("_law_one", 12)]) (enc := nD) rfl S_l_collects.nd (i_tup (e_v 9)) (blkOk_by (N := N_l_collects) (sc := defScope s_l_collects) (by decide +kernel)) (fun _ _ _ _ _ => pg_name (i := 12) S_l_collects.nd rfl (.inl rfl)) (fun x _ => tg_name 12 _) (by simp) (fun x hx _ _ _ _ _ => ?_) (by omega)))))))))) (fun _ => ?_) (fun _ => ?_))
      · obtain ⟨c, hc1, hc2⟩ := col_at o (hrl x hx)
        refine e_is (e_eq hu' (e_ixT (d := cD c) (i := (x : Nat)) (e_v 4) (e_v 12) (by omega) hc2) e_str (shaped_of (shd_c c) (by decide)) (sh_str (by decide +kernel)) (nomark _)) ?_
        rw [show PyData.str "white" = cD .white from rfl, eqv_c, hc1]
        simp
      · refine ss_end (ss_one (s_app 7 (ds := ps.map stpD) (d := stpD (.visit i')) rfl (e_tup (d_cons e_str (d_cons (e_v 8) d_nil))) (by rw [List.length_map]; omega))) ⟨ps ++ [.visit i'], ⟨by rw [List.length_append]; simp; omega, fun p hp => ?_⟩, ?_⟩
        · rcases List.mem_append.mp hp with z | z
          · exact hps p z
          · rw [List.mem_singleton.mp z]
            exact ⟨hi2, rfl⟩
        · show WkL _ (E1 (.own ((ps ++ [Stp.visit i']).map stpD)))
          rw [List.map_append]
          exact .same (.same (.same (.same (.same (.same (.same (.same (.drop (.drop (.same (.same (.same .nil))))))))))))
      · exact ss_end ss_nil ⟨ps, ⟨by omega, hps⟩, .same (.same (.same (.same (.same (.same (.same (.same (.drop (.drop (.same (.same (.same .nil))))))))))))⟩
    rintro e ⟨ps, ⟨hl, hps⟩, wk⟩
    rw [List.length_zipIdx, hlh] at hl
    exact ss_pre wk (ss_frz 7 rfl (ss_one (s_ret (e_toG (e_v 7) ⟨ps, rfl, by omega, hps⟩))))
abbrev FChoices (P : Program) (w : World) (K : PySem.W.Frag) (mg : Str → Option Value) (base : Heap) : Prop :=
  FnD P w K mg base 2 "_law_choices" (fun i : StpI => i.s.Ok 5) (fun i => [Dat K (tabD i.M i.rs), Dat K (staD i.s)])
    (fun i => ExD K fun d => ∃ ps : List Stp, d = .list (ps.map stpD) ∧ ps.length ≤ 2000 ∧ ∀ p ∈ ps, Can i.s p)
structure Ch3 where
  dr : List Stp
  ld : List Stp
  st : List Stp
structure ChOk (s : Sta) (a b c : Nat) (x : Ch3) : Prop where
  l1 : x.dr.length ≤ a
  l2 : x.ld.length ≤ b
  l3 : x.st.length ≤ c
  c1 : ∀ p ∈ x.dr, Can s p
  c2 : ∀ p ∈ x.ld, Can s p
  c3 : ∀ p ∈ x.st, Can s p
theorem mem_app {α : Type} {Q : α → Prop} {l l' : List α} (h : ∀ p ∈ l, Q p) (h' : ∀ p ∈ l', Q p) : ∀ p ∈ l ++ l', Q p := fun p hp => (List.mem_append.mp hp).elim (h p) (h' p)
theorem rep_flat (ds : List PyData) (b : Bool) : (List.replicate (if b = true then (1 : Int) else 0).toNat ds).flatten = if b = true then ds else [] := by
  cases b with
  | true => simp
  | false => rfl
set_option maxHeartbeats 1000000 in
theorem f_choices (B : Bi mg) (D : DefAt K mg "_law_choices" s_l_choices) (FE : FEnded P w K mg base) : FChoices P w K mg base :=
  def_D D S_l_choices (fun f fd F => F.binds fun _ _ _ _ _ _ us hl => match us, hl with | [_, _], _ => rfl) (fun _ => inferInstance) (fun _ => rfl) fun f cdv A outer s0 H E hr ⟨M, rs, s⟩ o => by
    have hu := hu65 hr
    have hu' := hu64 hr
    have o : s.Ok 5 := o
    have hn : s.slots.length ≤ 9 := o.n
    have hlc := o.lc
    have hlh := o.lh
    have hls := o.ls
    have hw2 : s.w ≤ 2 := o.w2
    refine ss_to [.is (Dat K (tabD M rs)), .is (Dat K (staD s)), .no, .no, .no, .no, .no, .no, .no, .no, .no, .no, .no, .no, .no, .no, .no, .no] ?_
    refine ss_c (s_asg (e_v 1) (pg_tup rfl (pgs_cons (pg_name (i := 2) S_l_choices.nd rfl (.inl rfl)) (pgs_cons (pg_name (i := 3) S_l_choices.nd rfl (.inr rfl)) (pgs_cons (pg_name (i := 4) S_l_choices.nd rfl (.inl rfl)) (pgs_cons (pg_name (i := 5) S_l_choices.nd rfl (.inl rfl)) (pgs_cons (pg_name (i := 6) S_l_choices.nd rfl (.inr rfl)) pgs_nil))))))
      (tg_tup (tgs_cons 2 (tgs_cons 3 (tgs_cons 4 (tgs_cons 5 (tgs_cons 6 tgs_nil))))))) ?_
    let E0 : Ent → Ent → Ent → Ent → Ent → Ent → Ent → Ent → List Ent := fun d l t th so ho sl fo => [.is (Dat K (tabD M rs)), .is (Dat K (staD s)), .is (Dat K (.int s.w)), .is (Dat K (.tuple (s.slots.map rowD))), .is (Dat K (.tuple (s.col.map cD))), .is (Dat K (.tuple (s.held.map hrowD))), .is (Dat K (.tuple (s.sc.map .bool))), d, l, t, th, so, ho, sl, fo, .no, .no, .no]
    let E1 : Ch3 → Ent → Ent → Ent → List Ent := fun x th so ho => E0 (.own (x.dr.map stpD)) (.own (x.ld.map stpD)) (.own (x.st.map stpD)) th so ho .no .no
    refine ss_to (E0 .no .no .no .no .no .no .no .no) ?_
    refine ss_ifr (t_val (e_call FE (rs, s) o hr (a_cons (e_ixT (d := .bool rs) (ds := [.tuple (M.map mkD), .bool rs]) (e_v 0) e_int (by decide) rfl) (a_cons (e_v 1) a_nil)))) (fun _ => ss_one (s_ret (e_toG (e_datL (e_lst d_nil)) ⟨[], rfl, by simp, fun p h => (by cases h)⟩))) fun _ => ?_
    refine ss_c (s_par3 7 8 9 (p_own (e_lst d_nil) (p_own (e_lst d_nil) (p_own (e_lst d_nil) p_nil))) rfl S_l_choices.nd) (ss_to (E1 ⟨[], [], []⟩ .no .no .no) ?_)
    refine ss_cons (s_forA (α := Ch3) (fun _ x => E1 x .no .no .no) (fun i x => ChOk s (9 * i) (18 * i) (180 * i) x) ⟨[], [], []⟩ (xs := s.held.zipIdx) rfl (i_enum (xs := s.held) (enc := hrowD) B.enumerate (d_cons (e_v 5) d_nil))
      (pg_tup rfl (pgs_cons (pg_name (i := 10) S_l_choices.nd rfl (.inr rfl)) (pgs_cons (pg_name (i := 11) S_l_choices.nd rfl (.inl rfl)) pgs_nil))) (fun p _ => tg_pair 10 11 _ _) (WkL.refl _) ⟨by simp, by simp, by simp, fun p h => (by cases h), fun p h => (by cases h), fun p h => (by cases h)⟩ ?_ PassesOwn.never) ?_
    · rintro i ⟨row, i'⟩ x hp ⟨l1, l2, l3, c1, c2, c3⟩
      obtain ⟨hrow, hj⟩ := zip_at hp
      have hj : i' = i := hj
      subst hj
      have hrow : s.held[i']? = some row := hrow
      have hi2 : i' < 2 := by
        have := (List.getElem?_eq_some_iff.mp hrow).1
        omega
      obtain ⟨hr9, hrl⟩ := o.hb row (List.mem_of_getElem? hrow)
      let dn : List Stp := row.map fun n => .drop i' n
      refine ss_c (s_ext 7 (ds := x.dr.map stpD) (ds' := dn.map stpD) rfl (e_trk (e_isL (e_lc0 (f := fun n => stpD (.drop i' n)) (own := [("_law_number", 15)]) (enc := nD) (xs := row) rfl S_l_choices.nd (i_tup (e_v 11)) (blkOk_by (N := N_l_choices) (sc := defScope s_l_choices) (by decide +kernel)) (fun _ _ _ _ _ => pg_name (i := 15) S_l_choices.nd rfl (.inl rfl)) (fun n _ => tg_name 15 _) (by simp)
        (fun n _ _ _ _ _ _ => e_tup (d_cons e_str (d_cons (e_v 10) (d_cons (e_v 15) d_nil)))) (by omega)) (show _ = (row.map fun n => Stp.drop i' n).map stpD by rw [List.map_map]; rfl))) (by simp only [List.length_map]; have : dn.length = row.length := List.length_map ..; omega)) ?_
      let x1 : Ch3 := ⟨x.dr ++ dn, x.ld, x.st⟩
      refine ss_pre (es' := E1 x1 (.is (Dat K (nD i'))) (.is (Dat K (hrowD row))) .no) (by
        show WkL _ (E0 (.own ((x.dr ++ dn).map stpD)) (.own (x.ld.map stpD)) (.own (x.st.map stpD)) _ _ _ _ _)
        rw [List.map_append]
        exact WkL.refl _) ?_
      have hx1 : ChOk s (9 * (i' + 1)) (18 * i' + 2 * 0) (180 * i' + 20 * 0) x1 := ⟨by show (x.dr ++ dn).length ≤ _; rw [List.length_append]; have : dn.length = row.length := List.length_map ..; omega, by simpa using l2, by simpa using l3, mem_app c1 fun p hp => by
        obtain ⟨n, hn, rfl⟩ := List.mem_map.mp hp
        exact ⟨row, hrow, hn⟩, c2, c3⟩
      refine ss_nx (ss_one (s_forA (α := Ch3) (fun _ x => E1 x (.is (Dat K (nD i'))) (.is (Dat K (hrowD row))) .no) (fun j x => ChOk s (9 * (i' + 1)) (18 * i' + 2 * j) (180 * i' + 20 * j) x) x1 (xs := row) (enc := nD) rfl (i_tup (e_v 11)) (pg_name (i := 12) S_l_choices.nd rfl (.inr rfl)) (fun n _ => tg_name 12 _) (WkL.refl _) hx1 ?_ PassesOwn.never)) ?_
      · clear l1 l2 l3 c1 c2 c3 hx1 x1
        rintro j h x hh ⟨l1, l2, l3, c1, c2, c3⟩
        have hhr := List.mem_of_getElem? hh
        have hhl := hrl h hhr
        have hj9 : j < 9 := Nat.lt_of_lt_of_le (List.getElem?_eq_some_iff.mp hh).1 hr9
        have hsr : s.slots[h]? = some s.slots[h] := List.getElem?_eq_getElem hhl
        obtain ⟨hsw, hsb⟩ := o.row _ (List.mem_of_getElem? hsr)
        have hsw : s.slots[h].length = s.w := hsw
        generalize s.slots[h] = srow at hsr hsw hsb
        refine ss_nx (ss_one (s_forA (α := Ch3) (fun _ x => E1 x (.is (Dat K (nD i'))) (.is (Dat K (hrowD row))) (.is (Dat K (nD h)))) (fun k x => ChOk s (9 * (i' + 1)) (18 * i' + 2 * j + k) (180 * i' + 20 * j + 10 * k) x) x (xs := List.range s.w) (enc := fun i => .int (i : Nat)) rfl (i_range (n := (s.w : Nat)) B.range (d_cons (e_v 2) d_nil) (by omega) (by omega)) (pg_name (i := 13) S_l_choices.nd rfl (.inr rfl)) (fun n _ => tg_name 13 _) (WkL.refl _) ⟨l1, l2, l3, c1, c2, c3⟩ ?_ PassesOwn.never)) ?_
        · clear l1 l2 l3 c1 c2 c3
          rintro k k' x hk ⟨l1, l2, l3, c1, c2, c3⟩
          have hkw : k < s.w := by
            have := (List.getElem?_eq_some_iff.mp hk).1
            rw [List.length_range] at this
            exact this
          have hkk : k' = k := by
            rw [List.getElem?_range hkw] at hk
            exact (Option.some.inj hk).symm
          subst hkk
          have hsu : srow[k']? = some srow[k'] := List.getElem?_eq_getElem (by omega)
          generalize srow[k'] = old at hsu
          let ln : List Stp := if (!isNon (oD old)) = true then [.load i' h k'] else []
          have hln : ln.length ≤ 1 := by
            show (if (!isNon (oD old)) = true then [Stp.load i' h k'] else []).length ≤ 1
            split <;> simp
          let vs : List (Option Nat) := none :: row.map some
          let sn : List Stp := vs.map fun v => .store i' h k' v
          have hsn : sn.length ≤ 10 := by
            show (List.map _ (none :: row.map some)).length ≤ 10
            rw [List.length_map, List.length_cons, List.length_map]
            omega
          refine ss_c (s_ext 8 (ds := x.ld.map stpD) (ds' := ln.map stpD) rfl (e_trk (e_isL (e_rep (ds := [stpD (.load i' h k')]) (e_trk (e_lst (d_cons (e_tup (d_cons e_str (d_cons (e_v 10) (d_cons (e_v 12) (d_cons (e_v 13) d_nil))))) d_nil))) (e_intB B.int (e_notN (e_ixT (d := oD old) (i := (k' : Nat)) (e_ixT (d := rowD srow) (i := (h : Nat)) (e_v 3) (e_v 12) (by omega) (map_at hsr)) (e_v 13) (by omega) (map_at (f := oD) hsu)) e_non (nomark _))) (by split <;> decide) (by split <;> decide) (by split <;> simp)) (by
            rw [rep_flat]
            show _ = (if (!isNon (oD old)) = true then [Stp.load i' h k'] else []).map stpD
            split <;> rfl))) (by simp only [List.length_map]; omega)) ?_
          refine ss_end (ss_one (s_ext 9 (ds := x.st.map stpD) (ds' := sn.map stpD) rfl (e_trk (e_isL (e_lc0 (f := fun v => stpD (.store i' h k' v)) (own := [("_law_value", 16)]) (enc := oD) (xs := vs) rfl S_l_choices.nd (i_tup (e_is (e_cat (ds := [.none]) (ds' := row.map nD) (e_tup (d_cons e_non d_nil)) (e_v 11) (by simp; omega)) (show _ = PyData.tuple ((none :: row.map some).map oD) by rw [List.map_cons, List.map_map]; rfl))) (blkOk_by (N := N_l_choices) (sc := defScope s_l_choices) (by decide +kernel)) (fun _ _ _ _ _ => pg_name (i := 16) S_l_choices.nd rfl (.inl rfl)) (fun n _ => tg_name 16 _) (by simp)
            (fun v _ _ _ _ _ _ => e_tup (d_cons e_str (d_cons (e_v 10) (d_cons (e_v 12) (d_cons (e_v 13) (d_cons (e_v 16) d_nil)))))) (by show (none :: row.map some).length ≤ 100000; rw [List.length_cons, List.length_map]; omega)) (show _ = (vs.map fun v => Stp.store i' h k' v).map stpD by rw [List.map_map]; rfl))) (by simp only [List.length_map]; omega))) ⟨⟨x.dr, x.ld ++ ln, x.st ++ sn⟩, ⟨l1, ?_, ?_, c1, mem_app c2 fun p hp => ?_, mem_app c3 fun p hp => ?_⟩, ?_⟩
          · show (x.ld ++ ln).length ≤ _
            rw [List.length_append]
            omega
          · show (x.st ++ sn).length ≤ _
            rw [List.length_append]
            omega
          · have hp : p ∈ (if (!isNon (oD old)) = true then [Stp.load i' h k'] else []) := hp
            cases old with
            | none => cases hp
            | some y =>
              have hp : p ∈ [Stp.load i' h k'] := hp
              rw [List.mem_singleton.mp hp]
              exact ⟨row, srow, y, hrow, hhr, hsr, hsu⟩
          · obtain ⟨v, hv, rfl⟩ := List.mem_map.mp hp
            refine ⟨row, srow, old, hrow, hhr, hsr, hsu, fun y e => ?_⟩
            subst e
            rcases List.mem_cons.mp hv with z | z
            · cases z
            · obtain ⟨y', h1, h2⟩ := List.mem_map.mp z
              cases h2
              exact h1
          · show WkL _ (E0 (.own (x.dr.map stpD)) (.own ((x.ld ++ ln).map stpD)) (.own ((x.st ++ sn).map stpD)) _ _ _ _ _)
            rw [List.map_append, List.map_append]
            exact .same (.same (.same (.same (.same (.same (.same (.same (.same (.same (.same (.same (.same (.drop (.same (.same (.same (.same .nil)))))))))))))))))
        · rintro e ⟨x, ⟨l1, l2, l3, c1, c2, c3⟩, wk⟩
          rw [List.length_range] at l2 l3
          exact ⟨x, ⟨l1, by omega, by omega, c1, c2, c3⟩, wk.trans (.same (.same (.same (.same (.same (.same (.same (.same (.same (.same (.same (.same (.drop (.same (.same (.same (.same (.same .nil))))))))))))))))))⟩
      · rintro e ⟨x, ⟨l1, l2, l3, c1, c2, c3⟩, wk⟩
        exact ⟨x, ⟨l1, by omega, by omega, c1, c2, c3⟩, wk.trans (.same (.same (.same (.same (.same (.same (.same (.same (.same (.same (.drop (.drop (.same (.same (.same (.same (.same (.same .nil))))))))))))))))))⟩
    rintro e ⟨x, ⟨l1, l2, l3, c1, c2, c3⟩, wk⟩
    rw [List.length_zipIdx, hlh] at l1 l2 l3
    let pn : List Stp := ((List.range 2).filter fun _ => decide (((s.slots.length : Nat) : Int) < 12)).map fun n => .new n
    have hpn : pn.length ≤ 2 := by
      show (List.map _ _).length ≤ 2
      rw [List.length_map]
      exact List.length_filter_le _ _
    have cn : ∀ p ∈ pn, Can s p := fun p hp => by
      obtain ⟨n, hn, rfl⟩ := List.mem_map.mp hp
      have := List.mem_range.mp (List.mem_filter.mp hn).1
      show n < s.held.length
      omega
    let pg : List Stp := (s.col.zipIdx.filter fun p => decide (p.1 = .grey)).map fun p => .scan p.2
    have hpg : pg.length ≤ 9 := by
      show (List.map _ _).length ≤ 9
      rw [List.length_map]
      refine Nat.le_trans (List.length_filter_le _ _) ?_
      rw [List.length_zipIdx]
      omega
    have cg : ∀ p ∈ pg, Can s p := fun p hp => by
      obtain ⟨q, hq, rfl⟩ := List.mem_map.mp hp
      obtain ⟨h1, h2⟩ := List.mem_filter.mp hq
      obtain ⟨j, hj⟩ := List.getElem?_of_mem h1
      obtain ⟨z1, z2⟩ := zip_at hj
      show s.col[q.2]? = some .grey
      rw [z2, z1, of_decide_eq_true h2]
    let pv : List Stp := ((List.range 2).filter fun n => rs || !s.scOf n).map fun n => .visit n
    have hpv : pv.length ≤ 2 := by
      show (List.map _ _).length ≤ 2
      rw [List.length_map]
      exact List.length_filter_le _ _
    have cv : ∀ p ∈ pv, Can s p := fun p hp => by
      obtain ⟨n, hn, rfl⟩ := List.mem_map.mp hp
      have := List.mem_range.mp (List.mem_filter.mp hn).1
      show n < s.held.length
      omega
    refine ss_pre wk (ss_c (s_setL1 14 (e_isL (e_catL (e_trk (e_catL (e_o 7) (e_o 8) (by simp only [List.length_map]; omega))) (e_trk (e_lc (c := fun _ => decide (((s.slots.length : Nat) : Int) < 12)) (f := fun n => stpD (.new n)) (own := [("_law_thread", 10)]) (enc := fun i => .int (i : Nat)) (xs := List.range 2) rfl S_l_choices.nd (i_range (n := 2) B.range (d_cons (e_is (e_len B.len (e_sqd (e_v 5))) (by rw [List.length_map, hlh]; rfl)) d_nil) (by decide) (by decide)) (blkOk_by (N := N_l_choices) (sc := defScope s_l_choices) (by decide +kernel)) (fun _ _ _ _ _ => pg_name (i := 10) S_l_choices.nd rfl (.inl rfl)) (fun n _ => tg_name 10 _) (by simp)
      (fun n _ _ _ _ _ _ => ts_one (t_is (t_lt (e_len B.len (e_sqd (e_v 3))) e_int (nomark _)) (by rw [List.length_map]))) (fun n _ _ _ _ _ _ _ => e_tup (d_cons e_str (d_cons (e_v 10) d_nil))) (by simp))) (by
        have := List.length_filter_le (fun _ => decide (((s.slots.length : Nat) : Int) < 12)) (List.range 2)
        rw [List.length_range] at this
        simp only [List.length_map, List.length_append]; omega)) (show _ = (x.dr ++ x.ld ++ pn).map stpD by rw [List.map_append, List.map_append]; show _ = _ ++ (List.map _ (List.filter _ _)).map stpD; rw [List.map_map]; rfl)) S_l_choices.nd) ?_)
    refine ss_c (s_setL1 14 (e_isL (e_catL (e_trk (e_catL (e_o 14) (e_trk (e_lc (c := fun p => decide (p.1 = .grey)) (f := fun p => stpD (.scan p.2)) (own := [("_law_number", 15), ("_law_colour", 17)]) (xs := s.col.zipIdx) rfl S_l_choices.nd (i_enum (xs := s.col) (enc := cD) B.enumerate (d_cons (e_v 4) d_nil)) (blkOk_by (N := N_l_choices) (sc := defScope s_l_choices) (by decide +kernel))
      (fun _ _ _ _ _ => pg_tup rfl (pgs_cons (pg_name (i := 15) S_l_choices.nd rfl (.inl rfl)) (pgs_cons (pg_name (i := 17) S_l_choices.nd rfl (.inl rfl)) pgs_nil))) (fun p _ => tg_pair 15 17 _ _) (by simp)
      (fun p _ _ _ _ _ _ => ts_one (t_is (t_eq hu' (e_v 17) e_str (shaped_of (shd_c _) (by decide)) (sh_str (by decide +kernel)) (nomark _)) (eqv_c p.1 .grey))) (fun p _ _ _ _ _ _ _ => e_tup (d_cons e_str (d_cons (e_v 15) d_nil))) (by rw [List.length_zipIdx]; omega))) (by
        have := List.length_filter_le (fun p : C × Nat => decide (p.1 = C.grey)) s.col.zipIdx
        rw [List.length_zipIdx] at this
        simp only [List.length_map, List.length_append]; omega))) (e_o 9) (by
        have := List.length_filter_le (fun p : C × Nat => decide (p.1 = C.grey)) s.col.zipIdx
        rw [List.length_zipIdx] at this
        simp only [List.length_map, List.length_append]; omega)) (show _ = (x.dr ++ x.ld ++ pn ++ pg ++ x.st).map stpD by rw [List.map_append (l₂ := x.st), List.map_append (l₂ := pg)]; show _ = _ ++ (List.map _ (List.filter _ _)).map stpD ++ _; rw [List.map_map (f := fun p : C × Nat => Stp.scan p.2)]; rfl)) S_l_choices.nd) ?_
    refine ss_one (s_ret (e_toG (e_datL (e_isL (e_catL (e_o 14) (e_trk (e_lc (c := fun n => rs || !s.scOf n) (f := fun n => stpD (.visit n)) (own := [("_law_thread", 10)]) (enc := fun i => .int (i : Nat)) (xs := List.range 2) rfl S_l_choices.nd (i_range (n := 2) B.range (d_cons (e_is (e_len B.len (e_sqd (e_v 5))) (by rw [List.length_map, hlh]; rfl)) d_nil) (by decide) (by decide)) (blkOk_by (N := N_l_choices) (sc := defScope s_l_choices) (by decide +kernel)) (fun _ _ _ _ _ => pg_name (i := 10) S_l_choices.nd rfl (.inl rfl)) (fun n _ => tg_name 10 _) (by simp)
      (fun n hnr _ _ _ _ _ => ts_one (PW.pt (w_or (t_val (e_ixT (d := .bool rs) (ds := [.tuple (M.map mkD), .bool rs]) (e_v 0) e_int (by decide) rfl)) fun _ => w_or1 (t_not (t_val (e_ixT (d := .bool (s.scOf n)) (i := (n : Nat)) (e_v 6) (e_v 10) (by omega) ?_)))))) (fun n _ _ _ _ _ _ _ => e_tup (d_cons e_str (d_cons (e_v 10) d_nil))) (by simp))) (by
        have := List.length_filter_le (fun n => rs || !s.scOf n) (List.range 2)
        rw [List.length_range] at this
        simp only [List.length_map, List.length_append]; omega)) (show _ = (x.dr ++ x.ld ++ pn ++ pg ++ x.st ++ pv).map stpD by rw [List.map_append (l₂ := pv)]; show _ = _ ++ (List.map _ (List.filter _ _)).map stpD; rw [List.map_map (f := fun n : Nat => Stp.visit n)]; rfl))) ⟨_, rfl, by simp only [List.length_append]; omega, mem_app (mem_app (mem_app (mem_app (mem_app c1 c2) cn) cg) c3) cv⟩))
    have hn2 : n < s.sc.length := by
      have := List.mem_range.mp hnr
      omega
    refine map_at ?_
    unfold Sta.scOf
    rw [List.getD_eq_getElem?_getD, List.getElem?_eq_getElem hn2]
    rfl
end Sr
/-! the walk: start, words; what judging begins with -/
namespace Sr
open PySem PySem.Spec PyProof.Rows L2 Dl Sb
variable {P : Program} {w : World} {K : PySem.W.Frag} {mg : Str → Option Value} {base : Heap}
/-- a state at its start -/
def startS (w : Nat) (slots : List (List (Option Nat))) (held : List (List Nat)) : Sta := ⟨w, slots, List.replicate slots.length .white, held, List.replicate held.length false⟩
structure HeapI where
  w : Nat
  slots : List (List (Option Nat))
  held : List (List Nat)
def heapD (i : HeapI) : PyData := .tuple [.int i.w, .tuple (i.slots.map rowD), .tuple (i.held.map hrowD)]
abbrev FStart (P : Program) (w : World) (K : PySem.W.Frag) (mg : Str → Option Value) (base : Heap) : Prop :=
  FnD P w K mg base 1 "_law_start" (fun i : HeapI => 1 ≤ i.slots.length ∧ i.slots.length ≤ 9 ∧ i.held.length = 2) (fun i => [Dat K (heapD i)]) (fun i => Dat K (staD (startS i.w i.slots i.held)))
theorem f_start (B : Bi mg) (D : DefAt K mg "_law_start" s_l_start) : FStart P w K mg base :=
  def_D D S_l_start (fun f fd F => F.binds fun _ _ _ _ _ _ us hl => match us, hl with | [_], _ => rfl) (fun _ => inferInstance) (fun _ => rfl) fun f cdv A outer s0 H E hr ⟨wd, slots, held⟩ ⟨h1, h2, h3⟩ => by
    have h1 : 1 ≤ slots.length := h1
    have h2 : slots.length ≤ 9 := h2
    have h3 : held.length = 2 := h3
    refine ss_to [.is (Dat K (heapD ⟨wd, slots, held⟩))] ?_
    refine ss_one (s_ret (e_is (e_tup (d_cons (e_ixT (d := .int wd) (ds := [.int wd, .tuple (slots.map rowD), .tuple (held.map hrowD)]) (e_v 0) e_int (by decide) rfl) (d_cons (e_ixT (d := .tuple (slots.map rowD)) (ds := [.int wd, .tuple (slots.map rowD), .tuple (held.map hrowD)]) (e_v 0) e_int (by decide) rfl)
      (d_cons (e_repW (d := .str "white") (w := slots.length) (e_tup (d_cons e_str d_nil)) (e_is (e_len B.len (e_sqd (ds := slots.map rowD) (e_ixT (d := .tuple (slots.map rowD)) (ds := [.int wd, .tuple (slots.map rowD), .tuple (held.map hrowD)]) (e_v 0) e_int (by decide) rfl))) (by rw [List.length_map])) h1 (by omega))
      (d_cons (e_ixT (d := .tuple (held.map hrowD)) (ds := [.int wd, .tuple (slots.map rowD), .tuple (held.map hrowD)]) (e_v 0) e_int (by decide) rfl)
      (d_cons (e_repW (d := .bool false) (w := held.length) (e_tup (d_cons e_bl d_nil)) (e_is (e_len B.len (e_sqd (ds := held.map hrowD) (e_ixT (d := .tuple (held.map hrowD)) (ds := [.int wd, .tuple (slots.map rowD), .tuple (held.map hrowD)]) (e_v 0) e_int (by decide) rfl))) (by rw [List.length_map])) (by omega) (by omega)) d_nil)))))) ?_))
    unfold staD startS
    rw [List.map_replicate, List.map_replicate]
    rfl
def words : List Word := [.clean, .covered, .direct, .safe, .strong, .weak]
abbrev FWords (P : Program) (w : World) (K : PySem.W.Frag) (mg : Str → Option Value) (base : Heap) : Prop :=
  FnD P w K mg base 1 "_law_words" (fun _ : Unit => True) (fun _ => []) (fun _ => Dat K (.list (words.map fun w => .str (wS w))))
theorem f_words (D : DefAt K mg "_law_words" s_l_words) : FWords P w K mg base :=
  def_D D S_l_words (fun f fd F => F.binds fun _ _ _ _ _ _ us hl => match us, hl with | [], _ => rfl) (fun _ => inferInstance) (fun _ => rfl) fun f cdv A outer s0 H E hr _ _ => by
    refine ss_to [] ?_
    exact ss_one (s_ret (e_is (e_datL (e_lst (d_cons e_str (d_cons e_str (d_cons e_str (d_cons e_str (d_cons e_str (d_cons e_str d_nil)))))))) rfl))
/-! ### judging: the marks that close a gap -/
structure Gls (K : PySem.W.Frag) (mg : Str → Option Value) : Prop where
  safeP : GlD K mg "SAFE_judging" (.str "safe")
  scanned : GlD K mg "SCANNED" (.str "scanned")
  unscanned : GlD K mg "UNSCANNED" (.str "unscanned")
  states : GlD K mg "STATES" (.tuple [.str "scanned", .str "unscanned"])
  black : GlD K mg "BLACK" (.str "black")
  grey : GlD K mg "GREY" (.str "grey")
  white : GlD K mg "WHITE" (.str "white")
  oldV : GlD K mg "OLD_VALUES" (.tuple [.str "none", .str "grey", .str "black"])
  newV : GlD K mg "NEW_VALUES" (.tuple [.str "none", .str "grey", .str "black", .str "white"])
  newWhite : GlD K mg "NEW_WHITE" (.str "new_white")
  loadGrey : GlD K mg "LOAD_GREY" (.str "load_grey")
  loadWhite : GlD K mg "LOAD_WHITE" (.str "load_white")
  loadBlack : GlD K mg "LOAD_BLACK" (.str "load_black")
  byUnscanned : GlD K mg "BY_UNSCANNED" (.str "by_unscanned")
  overWhite : GlD K mg "OVER_WHITE" (.str "by_unscanned_over_white")
  byScanned : GlD K mg "BY_SCANNED" (.str "by_scanned")
  cutGrey : GlD K mg "CUT_GREY" (.str "cut_grey")
  cutWhite : GlD K mg "CUT_WHITE" (.str "cut_white")
  gaps : GlD K mg "GAPS" (.tuple [.str "new_white", .str "load_grey", .str "load_white", .str "load_black", .str "by_unscanned", .str "by_unscanned_over_white", .str "by_scanned", .str "cut_grey", .str "cut_white"])
  props : GlD K mg "PROPERTIES" (.tuple [.str "clean", .str "covered", .str "direct", .str "safe", .str "strong", .str "weak"])
abbrev FInto (P : Program) (w : World) (K : PySem.W.Frag) (mg : Str → Option Value) (base : Heap) : Prop :=
  FnD P w K mg base 1 "marks_into_black" (fun _ : Bool × Option C => True) (fun i => [Dat K (.str (kS i.1)), Dat K (.str (ocS i.2))]) (fun i => Dat K (.tuple ((intoBlack i.1 i.2).map mkD)))
theorem f_into (B : Bi mg) (G : Gls K mg) (D : DefAt K mg "marks_into_black" s_marks_into_black) : FInto P w K mg base :=
  def_D D S_marks_into_black (fun f fd F => F.binds fun _ _ _ _ _ _ us hl => match us, hl with | [_, _], _ => rfl) (fun _ => inferInstance) (fun _ => rfl) fun f cdv A outer s0 H E hr ⟨k, oc⟩ _ => by
    refine ss_to [.is (Dat K (.str (kS k))), .is (Dat K (.str (ocS oc))), .no] ?_
    refine ss_one (s_ret (e_is (e_tuple B.tuple (e_lsdT (e_trk (e_lc0 (f := fun wh => mkD (.so k .black oc (some .white) wh)) (own := [("who", 2)]) (enc := fun wh => .str (whoS wh)) (xs := [Who.new, Who.holder]) rfl S_marks_into_black.nd (i_tup (e_tup (d_cons e_str (d_cons e_str d_nil)))) (blkOk_by (N := N_marks_into_black) (sc := defScope s_marks_into_black) (by decide +kernel)) (fun _ _ _ _ _ => pg_name (i := 2) S_marks_into_black.nd rfl (.inl rfl)) (fun n _ => tg_name 2 _) (by simp)
      (fun n _ _ _ _ _ _ => e_tup (d_cons e_str (d_cons (e_v 0) (d_cons (e_g G.black) (d_cons (e_v 1) (d_cons (e_g G.white) (d_cons (e_v 2) d_nil)))))) (by show (6 : Nat) ≤ 100000; decide)) (by simp))))) rfl))
end Sr
/-! the walk: cuts, the marks that close a gap, the ways -/
namespace Dl
open PySem PySem.Spec PyProof.Rows L2
variable {X : Cx} {K : PySem.W.Frag} {es : List Ent} {a b e : Expr} {pos p2 p3 : Pos}
/-- a value at a place, whatever it is -/
def Is (v : V) : Rel := fun _ _ x => x = v
instance {v : V} : PerR (Is v) := ⟨fun _ _ _ _ _ _ h => h⟩
theorem e_gl {x : Str} {u : Value} {v : V} (hm : X.mg x = some u) (r : RelV v u) (hg : Gl X x := by rfl) (hd : (x == ("__debug__" : Str)) = false := by decide) : PE X (.Name x pos) (tCan K es (Is v)) := e_c (pe_glob hg hm r hd) fun _ _ => rfl
/-- x in d, d[x]: a written dict of text keys -/
theorem t_inKD {d : Addr} {en : Array DictEntry} {n : Nat} {z : Str} {r : Option Value} (D : KDict X.K X.w d en n) (hz : PySem.W.nsIn X.K d z = some r) (ha : PE X a (tCan X.K es (Dat X.K (.str z)))) (hb : PE X b (tCan X.K es (Is (.ref d)))) (hm : behindInMarks .In b = false := by with_unfolding_all rfl) : PT X (.Compare a [.In] [b] pos) (tCanT X.K es r.isSome) :=
  t_of (pt_cmpR (op_in_kd D) ha hb hm) (can2 fun x y F H Q s hx hy k => ⟨z, r, dat_str hx, hy, hz, can_now (R := Dat X.K (.bool _)) s (Dp.bl _) k⟩)
theorem e_ixKD {d : Addr} {z : Str} {v : V} {dt : PyData} (D : KDct X.K X.w d z v) (hv : Dp X.K (fun _ => none) v dt) (ha : PE X a (tCan X.K es (Is (.ref d)))) (hb : PE X b (tCan X.K es (Dat X.K (.str z)))) (hs : PlainIx b := by exact fun _ _ => rfl) : PE X (.Subscript a b pos) (tCan X.K es (Dat X.K dt)) :=
  pe_imp (pe_ix ix_kdict ha hb hs) (can2 fun x y F H Q s hx hy k => ⟨d, z, v, hx, dat_str hy, D, can_now (R := Dat X.K dt) s (dp_mono (fun _ _ q => by cases q) _ _ hv) k⟩)
/-- a text from a place on -/
theorem e_slS {z : Str} {i : Int} {r : Str} (ha : PE X a (tCan X.K es (Dat X.K (.str z)))) (hb : PE X b (tCan X.K es (Dat X.K (.int i)))) (hz : z.length ≤ 100000) (hr : cutS z (some i) none = r) : PE X (.Subscript a (.Slice (some b) none none p2) pos) (tCan X.K es (Dat X.K (.str r))) :=
  pe_imp (pe_slice sl_str ha (po_some hb) po_none) fun σ H Q ⟨F0, H0, F, S, k⟩ => ⟨F0, H0, F, S, fun x F1 H1 g1 r1 => ⟨F0, H0, F1, S.grow g1, fun y F2 H2 g2 r2 =>
    ⟨i, dat_int r2, z, dat_str r1, Nat.le_trans hz (by decide), by rw [hr]; exact k _ F2 H2 (g1.trans g2) (.str _)⟩⟩⟩
theorem e_lenS {z : Str} (hm : X.mg "len" = none) (h : PE X e (tCan X.K es (Dat X.K (.str z)))) (hz : z.length ≤ 100000) (hg : Gl X "len" := by rfl) (he : starEach [e] X.env = (false, eval e X.env) :: starEach [] X.env := by rfl) : PE X (.Call (.Name "len" p2) [e] [] pos) (tCan X.K es (Dat X.K (.int (z.length : Nat)))) :=
  pe_imp (pe_callB call_len_str hg hm PySem.boot_len (pa_cons h pa_nil he) (he := he)) (can1 fun x F H Q s r k => ⟨z, by rw [dat_str r], Nat.le_trans hz (by decide), can_now (R := Dat X.K (.int _)) s (Dp.int _) k⟩)
end Dl
namespace Sr
open PySem PySem.Spec PyProof.Rows L2 Dl Sb
variable {P : Program} {w : World} {K : PySem.W.Frag} {mg : Str → Option Value} {base : Heap}
abbrev FCuts (P : Program) (w : World) (K : PySem.W.Frag) (mg : Str → Option Value) (base : Heap) : Prop :=
  FnD P w K mg base 1 "cuts" (fun _ : C => True) (fun c => [Dat K (cD c)]) (fun c => Dat K (.tuple ((cuts c).map mkD)))
theorem f_cuts (B : Bi mg) (G : Gls K mg) (D : DefAt K mg "cuts" s_cuts) : FCuts P w K mg base :=
  def_D D S_cuts (fun f fd F => F.binds fun _ _ _ _ _ _ us hl => match us, hl with | [_], _ => rfl) (fun _ => inferInstance) (fun _ => rfl) fun f cdv A outer s0 H E hr c _ => by
    refine ss_to [.is (Dat K (cD c)), .no, .no] ?_
    refine ss_one (s_ret (e_is (e_tuple B.tuple (e_lsdT (e_trk (e_lc2 (f := fun k n => mkD (.so k c (some .white) n .old)) (own := [("state", 1), ("new", 2)]) (enc := fun k => .str (kS k)) (xs := [true, false]) (enc1 := fun n => .str (ocS n)) (ys := newValues) 1 2 rfl S_cuts.nd (i_tup (e_g G.states)) (blkOk_by (N := N_cuts) (sc := defScope s_cuts) (by decide +kernel)) (by simp) (by simp) (fun _ _ _ _ _ => pg_name (i := 1) S_cuts.nd rfl (.inl rfl)) (fun _ _ _ _ _ _ _ => i_tup (e_g G.newV)) (fun _ _ _ _ _ => pg_name (i := 2) S_cuts.nd rfl (.inl rfl))
      (fun k _ n _ _ _ _ _ _ => e_tup (d_cons e_str (d_cons (e_v 1) (d_cons (e_v 0) (d_cons (e_g G.white) (d_cons (e_v 2) (d_cons e_str d_nil)))))) (by show (6 : Nat) ≤ 100000; decide)) (by decide))))) rfl))
def gS : Gap → Str
  | .newWhite => "new_white"
  | .loadGrey => "load_grey"
  | .loadWhite => "load_white"
  | .loadBlack => "load_black"
  | .byUnscanned => "by_unscanned"
  | .overWhite => "by_unscanned_over_white"
  | .byScanned => "by_scanned"
  | .cutGrey => "cut_grey"
  | .cutWhite => "cut_white"
theorem gS_inj {c d : Gap} (h : gS c = gS d) : c = d := by cases c <;> cases d <;> first | rfl | exact absurd h (by decide)
theorem eqv_g (c d : Gap) : PyData.eqv (.str (gS c)) (.str (gS d)) = decide (c = d) := by
  rw [eqv_str]
  by_cases h : c = d
  · subst h; simp
  · rw [decide_eq_false h, decide_eq_false fun q => h (gS_inj q)]
theorem shd_g (g : Gap) : Shd 1 (.str (gS g)) := shd_str (by cases g <;> decide +kernel)
def closeD (g : Gap) : PyData := .tuple ((closes g).map fun ms => .tuple (ms.map mkD))
structure HoldK (K : PySem.W.Frag) (w : World) (mg : Str → Option Value) : Prop where
  ex : ∃ (d : Addr) (en : Array DictEntry) (n : Nat), mg "HOLDER_OF_CUT" = some (.ref d) ∧ KDict K w d en n ∧ (∀ g : Gap, g ≠ .cutGrey → g ≠ .cutWhite → PySem.W.nsIn K d (gS g) = some none) ∧
    (∃ u, PySem.W.nsIn K d (gS .cutGrey) = some (some u) ∧ RelV (.str "grey") u) ∧ ∃ u, PySem.W.nsIn K d (gS .cutWhite) = some (some u) ∧ RelV (.str "white") u
abbrev FClose (P : Program) (w : World) (K : PySem.W.Frag) (mg : Str → Option Value) (base : Heap) : Prop :=
  FnD P w K mg base 2 "marks_that_close" (fun _ : Gap => True) (fun g => [Dat K (.str (gS g))]) (fun g => Dat K (closeD g))
theorem f_close (B : Bi mg) (G : Gls K mg) (HK : HoldK K w mg) (D : DefAt K mg "marks_that_close" s_marks_that_close) (FI : FInto P w K mg base) (FC : FCuts P w K mg base) : FClose P w K mg base :=
  def_D D S_marks_that_close (fun f fd F => F.binds fun _ _ _ _ _ _ us hl => match us, hl with | [_], _ => rfl) (fun _ => inferInstance) (fun _ => rfl) fun f cdv A outer s0 H E hr g _ => by
    have hu := hu65 hr
    have hu' := hu64 hr
    obtain ⟨d, en, n, hmd, KD, hno, ⟨ug, hug, rug⟩, ⟨uw, huw, ruw⟩⟩ := HK.ex
    refine ss_to [.is (Dat K (.str (gS g))), .no, .no, .no] ?_
    refine ss_ifr (t_is (t_eq hu' (e_v 0) (e_g G.newWhite) (shaped_of (shd_g g) (by decide)) (shaped_of (shd_g .newWhite) (by decide)) (nomark _)) (eqv_g g .newWhite)) (fun hc => ?_) fun hc1 => ?_
    · have hc := of_decide_eq_true hc
      subst hc
      exact ss_one (s_ret (e_is (e_tup (d_cons (e_tup (d_cons (e_tup (d_cons e_str (d_cons (e_g G.scanned) d_nil))) d_nil)) d_nil)) rfl))
    refine ss_ifr (t_is (t_inT (d := .str (gS g)) (ds := [.str (gS .loadGrey), .str (gS .loadWhite), .str (gS .loadBlack)]) hu (e_v 0) (e_tup (d_cons (e_g G.loadGrey) (d_cons (e_g G.loadWhite) (d_cons (e_g G.loadBlack) d_nil)))) (shaped_of (shd_g g) (by decide)) (shaped_of (n := 2) (shd_tup (by simp [shd_g])) (by decide))) (d' := decide (g = .loadGrey) || (decide (g = .loadWhite) || decide (g = .loadBlack))) ?_) (fun hc => ?_) fun hc2 => ?_
    · simp only [List.any_cons, List.any_nil, eqv_g, Bool.or_false]
      congr 1
      · simp [eq_comm]
      · congr 1 <;> simp [eq_comm]
    · obtain ⟨c, h1, h2, h3⟩ : ∃ c : C, cutS (gS g) (some ((Str.ofString "load_").length : Nat)) none = cS c ∧ closeD g = .tuple [.tuple [.tuple [.str "load", .str "scanned", .str (cS c)]]] ∧ (gS g).length ≤ 100000 := by
        rw [Bool.or_eq_true, Bool.or_eq_true, decide_eq_true_eq, decide_eq_true_eq, decide_eq_true_eq] at hc
        rcases hc with hc | hc | hc
        · subst hc
          exact ⟨.grey, by decide +kernel, rfl, by decide⟩
        · subst hc
          exact ⟨.white, by decide +kernel, rfl, by decide⟩
        · subst hc
          exact ⟨.black, by decide +kernel, rfl, by decide⟩
      exact ss_one (s_ret (e_is (e_tup (d_cons (e_tup (d_cons (e_tup (d_cons e_str (d_cons (e_g G.scanned) (d_cons (e_slS (z := gS g) (i := ((Str.ofString "load_").length : Nat)) (e_v 0) (e_lenS B.len e_str (by decide)) h3 h1) d_nil)))) d_nil)) d_nil)) h2.symm))
    refine ss_ifr (t_is (t_eq hu' (e_v 0) (e_g G.overWhite) (shaped_of (shd_g g) (by decide)) (shaped_of (shd_g .overWhite) (by decide)) (nomark _)) (eqv_g g .overWhite)) (fun hc => ?_) fun hc3 => ?_
    · have hc := of_decide_eq_true hc
      subst hc
      exact ss_one (s_ret (e_is (e_tup (d_cons (e_call FI (false, some .white) trivial hr (a_cons (e_g G.unscanned) (a_cons (e_g G.white) a_nil))) d_nil)) rfl))
    obtain ⟨r, hz, hrs⟩ : ∃ r, PySem.W.nsIn K d (gS g) = some r ∧ r.isSome = (decide (g = .cutGrey) || decide (g = .cutWhite)) := by
      by_cases h1 : g = .cutGrey
      · subst h1
        exact ⟨_, hug, rfl⟩
      · by_cases h2 : g = .cutWhite
        · subst h2
          exact ⟨_, huw, rfl⟩
        · exact ⟨_, hno g h1 h2, by rw [decide_eq_false h1, decide_eq_false h2]; rfl⟩
    refine ss_ifr (t_is (t_inKD KD hz (e_v 0) (e_gl hmd rfl)) hrs) (fun hc => ?_) fun hc4 => ?_
    · obtain ⟨c, h1, h2⟩ : ∃ c : C, KDct K w d (gS g) (.str (cS c)) ∧ closes g = (cuts c).map fun m => [m] := by
        rw [Bool.or_eq_true, decide_eq_true_eq, decide_eq_true_eq] at hc
        rcases hc with hc | hc
        · subst hc
          exact ⟨.grey, ⟨en, n, ug, KD.at_, KD.lit, hug, rug⟩, rfl⟩
        · subst hc
          exact ⟨.white, ⟨en, n, uw, KD.at_, KD.lit, huw, ruw⟩, rfl⟩
      refine ss_one (s_ret (e_is (e_tuple B.tuple (e_lsdT (e_trk (e_lc0 (f := fun m => .tuple [mkD m]) (own := [("mark", 2)]) (enc := mkD) (xs := cuts c) rfl S_marks_that_close.nd (i_tup (e_call FC c trivial hr (a_cons (e_ixKD (z := gS g) h1 (.str _) (e_gl hmd rfl) (e_v 0)) a_nil))) (blkOk_by (N := N_marks_that_close) (sc := defScope s_marks_that_close) (by decide +kernel)) (fun _ _ _ _ _ => pg_name (i := 2) S_marks_that_close.nd rfl (.inl rfl)) (fun n _ => tg_name 2 _) (by simp)
        (fun m _ _ _ _ _ _ => e_tup (d_cons (e_v 2) d_nil)) (by cases c <;> decide))))) ?_))
      unfold closeD
      rw [h2, List.map_map]
      rfl
    let k : Bool := decide (g = .byScanned)
    refine ss_c (s_set 1 (e_if (R := Dat K (.str (kS k))) (t_is (t_eq hu' (e_v 0) (e_g G.byScanned) (shaped_of (shd_g g) (by decide)) (shaped_of (shd_g .byScanned) (by decide)) (nomark _)) (eqv_g g .byScanned)) (fun h => e_is (e_g G.scanned) (by show _ = PyData.str (kS (decide (g = .byScanned))); rw [h]; rfl)) (fun h => e_is (e_g G.unscanned) (by show _ = PyData.str (kS (decide (g = .byScanned))); rw [h]; rfl))) S_marks_that_close.nd) ?_
    have hcl : closes g = oldValues.map (intoBlack k) := by
      show closes g = oldValues.map (intoBlack (decide (g = .byScanned)))
      cases g with
      | newWhite => cases hc1
      | loadGrey => cases hc2
      | loadWhite => cases hc2
      | loadBlack => cases hc2
      | overWhite => cases hc3
      | cutGrey => cases hc4
      | cutWhite => cases hc4
      | byScanned => rfl
      | byUnscanned => rfl
    refine ss_one (s_ret (e_is (e_tuple B.tuple (e_lsdT (e_trk (e_lc0 (f := fun oc => .tuple ((intoBlack k oc).map mkD)) (own := [("old", 3)]) (enc := fun oc => .str (ocS oc)) (xs := oldValues) rfl S_marks_that_close.nd (i_tup (e_g G.oldV)) (blkOk_by (N := N_marks_that_close) (sc := defScope s_marks_that_close) (by decide +kernel)) (fun _ _ _ _ _ => pg_name (i := 3) S_marks_that_close.nd rfl (.inl rfl)) (fun n _ => tg_name 3 _) (by simp)
      (fun oc _ _ _ _ _ _ => e_call FI (k, oc) trivial hr (a_cons (e_v 1) (a_cons (e_v 3) a_nil))) (by decide))))) ?_))
    unfold closeD
    rw [hcl, List.map_map]
    rfl
end Sr
/-! the known marks -/
namespace Sr
open PySem PySem.Spec PyProof.Rows L2 Dl Sb Nd
theorem nks_strs : ∀ xs : List Str, nks (xs.map .str) = xs.map NestedKey.text
  | [] => rfl
  | x :: xs => by rw [List.map_cons, nks, nks_strs xs]; rfl
theorem nk_mk (m : Mk) : nk (mkD m) = .tup ((mkS m).map NestedKey.text) := by
  show NestedKey.tup (nks _) = _
  rw [nks_strs]
theorem texts_inj : ∀ {xs ys : List Str}, xs.map NestedKey.text = ys.map NestedKey.text → xs = ys
  | [], [], _ => rfl
  | x :: xs, y :: ys, h => by
    simp only [List.map_cons, List.cons.injEq, NestedKey.text.injEq] at h
    rw [h.1, texts_inj h.2]
  | [], _ :: _, h => by cases h
  | _ :: _, [], h => by cases h
theorem nk_inj {m n : Mk} (h : nk (mkD m) = nk (mkD n)) : m = n := by
  rw [nk_mk, nk_mk] at h
  injection h with h
  exact mkS_inj (texts_inj h)
theorem keyables_strs : ∀ xs : List Str, keyables (xs.map .str) = true
  | [] => rfl
  | x :: xs => by rw [List.map_cons, keyables, keyables_strs xs]; rfl
theorem keyable_mk (m : Mk) : keyable (mkD m) = true := keyables_strs _
theorem depth_mk (m : Mk) : (mkD m).depth ≤ 8 := Nat.le_trans (shd_mk m).2 (by decide)
theorem atKey_put {κ : Type} [DecidableEq κ] (xs : List (κ × Addr × Value)) (k k' : κ) (a : Addr) (v : Value) : (atKey (storedH xs k a v) k').isSome = ((atKey xs k').isSome || decide (k' = k)) := by
  have hs : ∀ (ys : List (κ × Addr × Value)) (j : κ), (atKey ys j).isSome = ys.any fun x => decide (x.1 = j) := fun ys j => by
    unfold atKey
    rw [Option.isSome_map]
    induction ys with
    | nil => rfl
    | cons y ys ih =>
      rw [List.find?_cons, List.any_cons]
      by_cases h : y.1 = j
      · simp [h]
      · simp [h, ih]
  cases h : atKey xs k with
  | none =>
    rw [storedH_new h, hs, hs, List.any_append]
    congr 1
    simp [eq_comm]
  | some q =>
    rw [storedH_old h, hs, hs, List.any_map]
    have e : ((fun x : κ × Addr × Value => decide (x.1 = k')) ∘ putAt k v) = fun x => decide (x.1 = k') := funext fun x => by
      show decide ((putAt k v x).1 = k') = _
      unfold putAt
      split <;> rfl
    rw [e]
    by_cases hk : k' = k
    · subst hk
      have := hs xs k'
      rw [h] at this
      rw [← this]
      rfl
    · simp [hk]
theorem mem_put {κ : Type} [DecidableEq κ] {xs : List (κ × Addr × Value)} {k : κ} {a : Addr} {v : Value} {x : κ × Addr × Value} (h : x ∈ storedH xs k a v) : (∃ y ∈ xs, y.1 = x.1 ∧ y.2.1 = x.2.1) ∨ (x.1 = k ∧ x.2.1 = a) := by
  cases hk : atKey xs k with
  | none =>
    rw [storedH_new hk] at h
    rcases List.mem_append.mp h with z | z
    · exact .inl ⟨x, z, rfl, rfl⟩
    · rw [List.mem_singleton.mp z]
      exact .inr ⟨rfl, rfl⟩
  | some q =>
    rw [storedH_old hk] at h
    obtain ⟨y, hy, rfl⟩ := List.mem_map.mp h
    refine .inl ⟨y, hy, ?_⟩
    unfold putAt
    split <;> exact ⟨rfl, rfl⟩
theorem put_len {κ : Type} [DecidableEq κ] (xs : List (κ × Addr × Value)) (k : κ) (a : Addr) (v : Value) : (storedH xs k a v).length ≤ xs.length + 1 := by
  cases hk : atKey xs k with
  | none => rw [storedH_new hk, List.length_append]; exact Nat.le_refl _
  | some q => rw [storedH_old hk, List.length_map]; exact Nat.le_succ _
theorem keys_put {K : PySem.W.Frag} {F F' : Hp} {xs : Rows} {a : Addr} {d : PyData} {u : Value} (s : Same F F') (h : Keys K F xs) (hd : Dp K F' (.ref a) d) (hk : keyable d = true) (h8 : d.depth ≤ 8) : Keys K F' (storedH xs (nk d) a u) := fun x hx => by
  rcases mem_put hx with ⟨y, hy, e1, e2⟩ | ⟨e1, e2⟩
  · obtain ⟨d', h1, h2, h3, h4⟩ := h y hy
    exact ⟨d', e2 ▸ dp_mono s _ _ h1, h2, h3.trans e1, h4⟩
  · exact ⟨d, e2 ▸ hd, hk, e1.symm, h8⟩
theorem keys_mono {K : PySem.W.Frag} {F F' : Hp} {xs : Rows} (s : Same F F') (h : Keys K F xs) : Keys K F' xs := fun x hx => by
  obtain ⟨d, h1, h2⟩ := h x hx
  exact ⟨d, dp_mono s _ _ h1, h2⟩
theorem in_snoc (m : Mk) (l : List Mk) (c : Mk) : (decide (m ∈ l) || decide (nk (mkD m) = nk (mkD c))) = decide (m ∈ l ++ [c]) := by
  by_cases hm : m = c
  · subst hm; simp
  · rw [decide_eq_false fun z => hm (nk_inj z), Bool.or_false]
    simp [hm]
def KnownR (P : Program) (w : World) (K : PySem.W.Frag) (M : List Mk) : Rel := fun F _ v => ∃ p xs, v = .ref p ∧ F p = some (ndO P w p xs) ∧ Keys K F xs ∧ ∀ m, (atKey xs (nk (mkD m))).isSome = decide (m ∈ M)
instance {P : Program} {w : World} {K : PySem.W.Frag} {M : List Mk} : PerR (KnownR P w K M) := ⟨fun F H F' H' v g ⟨p, xs, e, h, k, q⟩ => ⟨p, xs, e, g _ _ h, keys_mono g k, q⟩⟩
variable {P : Program} {w : World} {K : PySem.W.Frag} {mg : Str → Option Value} {base : Heap}
section
variable {X : Cx} {es : List Ent} {a b e : Expr} {pos p2 p3 : Pos}
theorem dp_ref {ds : List PyData} {F : Hp} {v : V} (h : Dp K F v (.tuple ds)) : ∃ a, v = .ref a := by
  cases h with
  | tup _ _ => exact ⟨_, rfl⟩
theorem e_dcMarks {M : List Mk} {kx vx tg iter : Expr} {scope : Scope} {own : List (Str × Nat)} (j : Nat) (hu : X.A.units + 9 < cLine) (hc : X.calm = true) (hN : X.N.Nodup) (hi : PI X tg iter (tCanI X.K es (M.map mkD))) (ok : BlkOk X.N X.env.scope scope own) (hj : j ∈ own.map (·.2)) (hM : M.length ≤ 1000)
    (hg : ∀ (s : Shared) (H : Hp) (C : Addr) (cl : List (Str × Addr)) (fp : List Addr), PG (X.blk s H scope (compEnvC scope cl C X.env) fp) tg (gName j))
    (hk : ∀ m, m ∈ M → ∀ (s : Shared) (H : Hp) (C : Addr) (cl : List (Str × Addr)) (fp : List Addr), PE (X.blk s H scope (compEnvC scope cl C X.env) fp) kx (tCan X.K ((wipeE es (own.map (·.2))).set j (.is (Dat X.K (mkD m)))) (Dat X.K (mkD m))))
    (he : ∀ m, m ∈ M → ∀ (s : Shared) (H : Hp) (C : Addr) (cl : List (Str × Addr)) (fp : List Addr), PE (X.blk s H scope (compEnvC scope cl C X.env) fp) vx (tCan X.K ((wipeE es (own.map (·.2))).set j (.is (Dat X.K (mkD m)))) (Dat X.K (.bool true)))) (hs : ∀ x, foldedSetIterable iter X.env x = pure x := by intro _; rfl) :
    PE X (.DictComp kx vx [⟨tg, iter, [], 0⟩] scope pos) (tCan X.K es (KnownR X.prog X.w X.K M)) := by
  refine pe_imp (pe_dcN (tk := fun σ H Q => ∃ m, m ∈ M ∧ tCan X.K ((wipeE es (own.map (·.2))).set j (.is (Dat X.K (mkD m)))) (Dat X.K (mkD m)) σ H Q) (tv := fun σ H Q => ∃ m, m ∈ M ∧ tCan X.K ((wipeE es (own.map (·.2))).set j (.is (Dat X.K (mkD m)))) (Dat X.K (.bool true)) σ H Q) hu hc hN hi ok hg
    (fun s H C cl fp => ⟨fun pins s' σ H' Q I ⟨x, hx, q⟩ => (hk x hx s H C cl fp).run pins s' σ H' Q I q⟩) (fun s H C cl fp => ⟨fun pins s' σ H' Q I ⟨x, hx, q⟩ => (he x hx s H C cl fp).run pins s' σ H' Q I q⟩) hs) fun σ H Q ⟨F0, H0, F, S, k⟩ => ?_
  refine ⟨F0, H0, F, S, fun J F1 H1 g1 w D hD => ?_⟩
  have hlen : (M.map mkD).length = M.length := List.length_map ..
  unfold WalkD at w
  rw [hlen] at w
  refine walk_w1 (Nx := fun H => Q (.ref D) H) (Bd := fun Nx x H' => gName j x (L2.wipe σ (own.map (·.2))) H' fun σ2 H2 => L2.wipe σ2 (own.map (·.2)) = L2.wipe σ (own.map (·.2)) ∧
    (fun σ H Q => ∃ m, m ∈ M ∧ tCan X.K ((wipeE es (own.map (·.2))).set j (.is (Dat X.K (mkD m)))) (Dat X.K (mkD m)) σ H Q : TE) σ2 H2 fun y H3 => (fun σ H Q => ∃ m, m ∈ M ∧ tCan X.K ((wipeE es (own.map (·.2))).set j (.is (Dat X.K (mkD m)))) (Dat X.K (.bool true)) σ H Q : TE) σ2 H3 fun z H4 => sPut X.prog X.w X.K (.ref D) y z H4 Nx) w
    (fun i H' => ∃ F' xs, Grow F1 H1 F' H' ∧ F' D = none ∧ H' D = some (ndO X.prog X.w D xs) ∧ Keys X.K F' xs ∧ xs.length ≤ i ∧ ∀ m, (atKey xs (nk (mkD m))).isSome = decide (m ∈ M.take i)) ?_ ?_ ?_ ?_
  · exact ⟨F1, [], Grow.newH g1.fh hD, g1.fh.free hD, upd_same, fun x h => (by cases h), Nat.le_refl _, fun m => by rw [List.take_zero]; rfl⟩
  · rintro i H' _ ⟨F', xs, g2, _⟩
    exact g2.ff.trans g2.fh
  · rintro i x H2 H3 hi' ⟨F2, xs, g2, n2, hvs, ks, hl, hin⟩ y
    obtain ⟨F3, g3, d, hd, pd⟩ := y F2 g2.ff g2.fh
    have hx : M[i]? = some M[i] := List.getElem?_eq_getElem hi'
    rw [List.getElem?_map, hx] at hd
    cases hd
    have hxm : M[i] ∈ M := List.getElem_mem hi'
    have g13 := g2.trans g3
    have n3 : F3 D = none := g3.nw D n2 (by rw [hvs]; exact fun z => by cases z)
    have h3 : H3 D = some (ndO X.prog X.w D xs) := g3.hh _ _ hvs
    have S3 : Sv X.K (wipeE es (own.map (·.2))) F0 H0 F3 H3 (L2.wipe σ (own.map (·.2))) := (S.grow (g1.trans g13)).wipe _
    have S3' := S3.set (i := j) (R := Dat X.K (mkD M[i])) pd
    have et : M.take (i + 1) = M.take i ++ [M[i]] := by rw [List.take_add_one, hx]; rfl
    refine ⟨?_, M[i], hxm, F0, H0, F3, S3', fun y4 F4 H4 g4 r4 => ⟨M[i], hxm, F0, H0, F4, S3'.grow g4, fun z5 F5 H5 g5 r5 => ?_⟩⟩
    · rw [wipe_eq (σ := (L2.wipe σ (own.map (·.2))).set j (some x)) (τ := L2.wipe σ (own.map (·.2))) _ (by rw [List.length_set]) fun q hq => List.getElem?_set_ne fun z => hq (z ▸ hj), wipe_idem]
    · obtain ⟨a, rfl⟩ := dp_ref (ds := (mkS M[i]).map .str) r4
      have n5 : F5 D = none := g5.nw D (g4.nw D n3 (by rw [h3]; exact fun z => by cases z)) (by rw [g4.hh _ _ h3]; exact fun z => by cases z)
      have h5 : H5 D = some (ndO X.prog X.w D xs) := g5.hh _ _ (g4.hh _ _ h3)
      have r5' : Dp X.K F5 (.ref a) (mkD M[i]) := dp_mono g5.ff _ _ r4
      have s25 : Same F2 F5 := (g3.ff.trans g4.ff).trans g5.ff
      refine ⟨D, a, mkD M[i], xs, rfl, rfl, dp_mono g5.fh _ _ r5', keyable_mk _, depth_mk _, h5, keys_mono (s25.trans g5.fh) ks, by omega, fun u ru => ?_⟩
      refine ⟨F5, _, ((g13.trans g4).trans g5).mut hD n5, n5, upd_same, keys_put s25 ks r5' (keyable_mk _) (depth_mk _), Nat.le_trans (put_len _ _ _ _) (by omega), fun m => ?_⟩
      rw [atKey_put, hin m, et]
      exact in_snoc m _ _
  · rintro H' ⟨F', xs, g2, n2, hvs, ks, hl, hin⟩
    rw [List.take_length] at hin
    have gk := (g1.trans g2).keep (g1.hh.free hD) n2 hvs
    exact k (.ref D) _ H' gk ⟨D, xs, rfl, upd_same, keys_mono (same_new n2) ks, hin⟩
/-- mark in known -/
theorem e_inKn {M : List Mk} {m : Mk} (hu : X.A.units + 9 < cLine) (ha : PE X a (tCan X.K es (Dat X.K (mkD m)))) (hb : PE X b (tCan X.K es (KnownR X.prog X.w X.K M))) (hm : behindInMarks .In b = false := by with_unfolding_all rfl) : PE X (.Compare a [.In] [b] pos) (tCan X.K es (Dat X.K (.bool (decide (m ∈ M))))) :=
  pe_imp (pe_cmpR (op_in hu) ha hb hm) (can2 fun x y F H Q s hx ⟨p, xs, e, h, ks, hin⟩ k => by
    obtain ⟨a, rfl⟩ := dp_ref (ds := (mkS m).map .str) hx
    refine ⟨a, p, mkD m, xs, rfl, e, dp_mono s _ _ hx, keyable_mk _, depth_mk _, s _ _ h, keys_mono s ks, ?_⟩
    rw [hin m]
    exact can_now (R := Dat X.K (.bool _)) s (Dp.bl _) k)
end
abbrev FKnown (P : Program) (w : World) (K : PySem.W.Frag) (mg : Str → Option Value) (base : Heap) : Prop :=
  FnD P w K mg base 1 "known_marks" (fun i : List Mk × Bool => i.1.length ≤ 1000) (fun i => [Dat K (tabD i.1 i.2)]) (fun i => KnownR P w K i.1)
theorem f_known (D : DefAt K mg "known_marks" s_known_marks) : FKnown P w K mg base :=
  def_D D S_known_marks (fun f fd F => F.binds fun _ _ _ _ _ _ us hl => match us, hl with | [_], _ => rfl) (fun _ => inferInstance) (fun _ => rfl) fun f cdv A outer s0 H E hr ⟨M, rs⟩ hM => by
    have hM : M.length ≤ 1000 := hM
    refine ss_to [.is (Dat K (tabD M rs)), .no] ?_
    exact ss_one (s_ret (e_dcMarks (own := [("mark", 1)]) 1 (by have := hr.un; show (A.deeper _).units + 9 < cLine; omega) rfl S_known_marks.nd (i_tup (e_ixT (d := .tuple (M.map mkD)) (ds := [.tuple (M.map mkD), .bool rs]) (e_v 0) e_int (by decide) rfl)) (blkOk_by (N := N_known_marks) (sc := defScope s_known_marks) (by decide +kernel)) (by simp) hM (fun _ _ _ _ _ => pg_name (i := 1) S_known_marks.nd rfl (.inl rfl)) (fun m _ _ _ _ _ _ => e_v 1) (fun m _ _ _ _ _ _ => e_bl)))
end Sr
/-! the walk: open marks, gaps -/
namespace Sr
open PySem PySem.Spec PyProof.Rows L2 Dl Sb Nd
variable {P : Program} {w : World} {K : PySem.W.Frag} {mg : Str → Option Value} {base : Heap}
def msD (ms : List Mk) : PyData := .tuple (ms.map mkD)
abbrev FOpen (P : Program) (w : World) (K : PySem.W.Frag) (mg : Str → Option Value) (base : Heap) : Prop :=
  FnD P w K mg base 3 "open_marks" (fun _ : List Mk × Gap => True) (fun i => [KnownR P w K i.1, Dat K (.str (gS i.2))]) (fun i => Dat K (.list ((openM i.1 i.2).map msD)))
theorem f_open (B : Bi mg) (D : DefAt K mg "open_marks" s_open_marks) (FC : FClose P w K mg base) : FOpen P w K mg base :=
  def_D D S_open_marks (fun f fd F => F.binds fun _ _ _ _ _ _ us hl => match us, hl with | [_, _], _ => rfl) (fun _ => inferInstance) (fun _ => rfl) fun f cdv A outer s0 H E hr ⟨M, g⟩ _ => by
    have hu9 : (A.deeper (envOfC "open_marks" (defScope s_open_marks) s0.heap.objs.size f cdv)).units + 9 < cLine := by have := hr.un; omega
    refine ss_to [.is (KnownR P w K M), .is (Dat K (.str (gS g))), .no, .no] ?_
    have hcl : (closes g).length ≤ 100000 := by cases g <;> decide
    have hms : ∀ ms ∈ closes g, ms.length ≤ 100000 := by
      intro ms hm
      cases g <;> (simp only [closes, oldValues, cuts, newValues, intoBlack, List.map_cons, List.map_nil, List.flatMap_cons, List.flatMap_nil, List.mem_cons, List.mem_append, List.not_mem_nil, or_false, List.cons_append, List.nil_append] at hm; rcases hm with rfl | hm <;> first | decide | (repeat (first | (rcases hm with rfl | hm; · decide) | (subst hm; decide))))
    refine ss_one (s_ret (e_datL (e_lc (c := fun ms => !ms.any fun m => decide (m ∈ M)) (f := msD) (own := [("some", 2)]) (enc := msD) (xs := closes g) rfl S_open_marks.nd (i_tup (e_call FC g trivial hr (a_cons (e_v 1) a_nil))) (blkOk_by (N := N_open_marks) (sc := defScope s_open_marks) (by decide +kernel)) (fun _ _ _ _ _ => pg_name (i := 2) S_open_marks.nd rfl (.inl rfl)) (fun n _ => tg_name 2 _) (by simp)
      (fun ms hm _ _ _ _ _ => ts_one (t_not (t_val (e_any (p := fun m => decide (m ∈ M)) (xs := ms) rfl B.any (e_lsdT (e_trk (e_lc0 (own := [("mark", 3)]) (enc := mkD) (f := fun m => .bool (decide (m ∈ M))) rfl S_open_marks.nd (i_tup (e_v 2)) (blkOk_by (by kernel_rfl)) (fun _ _ _ _ _ => pg_name (i := 3) S_open_marks.nd rfl (.inl rfl)) (fun n _ => tg_name 3 _) (by simp)
        (fun m _ _ _ _ _ _ => e_inKn hu9 (e_v 3) (e_v 0)) (hms ms hm)))))))) (fun ms _ _ _ _ _ _ _ => e_v 2) hcl)))
end Sr
/-! the walk: gaps_of -/
namespace Sr
open PySem PySem.Spec PyProof.Rows L2 Dl Sb Nd
variable {P : Program} {w : World} {K : PySem.W.Frag} {mg : Str → Option Value} {base : Heap}
def GapsR (M : List Mk) : Rel := fun F _ v => ∃ p kvs, v = .ref p ∧ F p = some (.dK kvs) ∧ ∀ g, valV kvs (.inr (gS g)) = some (.bl (gapB M g))
instance {M : List Mk} : PerR (GapsR M) := ⟨fun F H F' H' v g ⟨p, xs, e, h, q⟩ => ⟨p, xs, e, g _ _ h, q⟩⟩
def allGaps : List Gap := [.newWhite, .loadGrey, .loadWhite, .loadBlack, .byUnscanned, .overWhite, .byScanned, .cutGrey, .cutWhite]
theorem mem_allGaps (g : Gap) : g ∈ allGaps := by cases g <;> decide
section
variable {X : Cx} {es : List Ent} {a b e : Expr} {pos p2 p3 : Pos}
theorem e_dcGaps {M : List Mk} {kx vx tg iter : Expr} {scope : Scope} {own : List (Str × Nat)} (j : Nat) (hc : X.calm = true) (hN : X.N.Nodup) (hi : PI X tg iter (tCanI X.K es (allGaps.map fun g => .str (gS g)))) (ok : BlkOk X.N X.env.scope scope own) (hj : j ∈ own.map (·.2))
    (hg : ∀ (s : Shared) (H : Hp) (C : Addr) (cl : List (Str × Addr)) (fp : List Addr), PG (X.blk s H scope (compEnvC scope cl C X.env) fp) tg (gName j))
    (hk : ∀ g : Gap, ∀ (s : Shared) (H : Hp) (C : Addr) (cl : List (Str × Addr)) (fp : List Addr), PE (X.blk s H scope (compEnvC scope cl C X.env) fp) kx (tCan X.K ((wipeE es (own.map (·.2))).set j (.is (Dat X.K (.str (gS g))))) (Dat X.K (.str (gS g)))))
    (he : ∀ g : Gap, ∀ (s : Shared) (H : Hp) (C : Addr) (cl : List (Str × Addr)) (fp : List Addr), PE (X.blk s H scope (compEnvC scope cl C X.env) fp) vx (tCan X.K ((wipeE es (own.map (·.2))).set j (.is (Dat X.K (.str (gS g))))) (Dat X.K (.bool (gapB M g))))) (hs : ∀ x, foldedSetIterable iter X.env x = pure x := by intro _; rfl) :
    PE X (.DictComp kx vx [⟨tg, iter, [], 0⟩] scope pos) (tCan X.K es (GapsR M)) := by
  refine pe_imp (pe_dc (tt := tYes) (tk := fun σ H Q => ∃ g : Gap, tCan X.K ((wipeE es (own.map (·.2))).set j (.is (Dat X.K (.str (gS g))))) (Dat X.K (.str (gS g))) σ H Q) (tv := fun σ H Q => ∃ g : Gap, tCan X.K ((wipeE es (own.map (·.2))).set j (.is (Dat X.K (.str (gS g))))) (Dat X.K (.bool (gapB M g))) σ H Q) hc hN hi ok hg (fun _ _ _ _ _ => pts_nil)
    (fun s H C cl fp => ⟨fun pins s' σ H' Q I ⟨x, q⟩ => (hk x s H C cl fp).run pins s' σ H' Q I q⟩) (fun s H C cl fp => ⟨fun pins s' σ H' Q I ⟨x, q⟩ => (he x s H C cl fp).run pins s' σ H' Q I q⟩) hs) fun σ H Q ⟨F0, H0, F, S, k⟩ => ?_
  refine ⟨F0, H0, F, S, fun J F1 H1 g1 w D hD => ?_⟩
  have hlen : (allGaps.map fun g => PyData.str (gS g)).length = 9 := rfl
  unfold WalkD at w
  rw [hlen] at w
  refine walk_w1 (Nx := fun H => Q (.ref D) H) (Bd := fun Nx x H' => gName j x (L2.wipe σ (own.map (·.2))) H' fun σ2 H2 => L2.wipe σ2 (own.map (·.2)) = L2.wipe σ (own.map (·.2)) ∧ tYes σ2 H2 fun b H3 =>
    if b = true then (fun σ H Q => ∃ g : Gap, tCan X.K ((wipeE es (own.map (·.2))).set j (.is (Dat X.K (.str (gS g))))) (Dat X.K (.str (gS g))) σ H Q : TE) σ2 H3 fun y H4 => (fun σ H Q => ∃ g : Gap, tCan X.K ((wipeE es (own.map (·.2))).set j (.is (Dat X.K (.str (gS g))))) (Dat X.K (.bool (gapB M g))) σ H Q : TE) σ2 H4 fun z H5 => ∃ kvs k, y = kV k ∧ H5 D = some (.dK kvs) ∧ kvs.length < sizeLine ∧ Nx (upd H5 D (.dK (putK kvs k z))) else Nx H3) w
    (fun i H' => ∃ F' kvs, Grow F1 H1 F' H' ∧ F' D = none ∧ H' D = some (.dK kvs) ∧ kvs.length ≤ i ∧ ∀ g ∈ allGaps.take i, valV kvs (.inr (gS g)) = some (.bl (gapB M g))) ?_ ?_ ?_ ?_
  · exact ⟨F1, [], Grow.newH g1.fh hD, g1.fh.free hD, upd_same, Nat.le_refl _, fun g h => by rw [List.take_zero] at h; cases h⟩
  · rintro i H' _ ⟨F', xs, g2, _⟩
    exact g2.ff.trans g2.fh
  · rintro i x H2 H3 hi' ⟨F2, kvs, g2, n2, hvs, hl, hin⟩ y
    obtain ⟨F3, g3, d, hd, pd⟩ := y F2 g2.ff g2.fh
    have hil : i < allGaps.length := hi'
    have hx : allGaps[i]? = some allGaps[i] := List.getElem?_eq_getElem hil
    rw [List.getElem?_map, hx] at hd
    cases hd
    generalize hgg : allGaps[i] = gg at hx pd
    have g13 := g2.trans g3
    have n3 : F3 D = none := g3.nw D n2 (by rw [hvs]; exact fun z => by cases z)
    have h3 : H3 D = some (.dK kvs) := g3.hh _ _ hvs
    have S3 : Sv X.K (wipeE es (own.map (·.2))) F0 H0 F3 H3 (L2.wipe σ (own.map (·.2))) := (S.grow (g1.trans g13)).wipe _
    have S3' := S3.set (i := j) (R := Dat X.K (.str (gS gg))) pd
    have et : allGaps.take (i + 1) = allGaps.take i ++ [gg] := by rw [List.take_add_one, hx]; rfl
    refine ⟨?_, gg, F0, H0, F3, S3', fun y4 F4 H4 g4 r4 => ⟨gg, F0, H0, F4, S3'.grow g4, fun z5 F5 H5 g5 r5 => ?_⟩⟩
    · rw [wipe_eq (σ := (L2.wipe σ (own.map (·.2))).set j (some x)) (τ := L2.wipe σ (own.map (·.2))) _ (by rw [List.length_set]) fun q hq => List.getElem?_set_ne fun z => hq (z ▸ hj), wipe_idem]
    · have n5 : F5 D = none := g5.nw D (g4.nw D n3 (by rw [h3]; exact fun z => by cases z)) (by rw [g4.hh _ _ h3]; exact fun z => by cases z)
      have h5 : H5 D = some (.dK kvs) := g5.hh _ _ (g4.hh _ _ h3)
      refine ⟨kvs, .inr (gS gg), dat_str r4, h5, Nat.lt_of_le_of_lt (show kvs.length ≤ 1000 by omega) (by decide), ?_⟩
      refine ⟨F5, _, ((g13.trans g4).trans g5).mut hD n5, n5, upd_same, Nat.le_trans (length_putK _ _ _) (by omega), fun g hgm => ?_⟩
      rw [et] at hgm
      rw [valV_put, dat_bl r5]
      by_cases hq : g = gg
      · subst hq
        rw [if_pos rfl]
      · rw [if_neg fun z => hq (gS_inj (Sum.inr.inj z))]
        rcases List.mem_append.mp hgm with z | z
        · exact hin g z
        · exact absurd (List.mem_singleton.mp z) hq
  · rintro H' ⟨F', kvs, g2, n2, hvs, hl, hin⟩
    have gk := (g1.trans g2).keep (g1.hh.free hD) n2 hvs
    exact k (.ref D) _ H' gk ⟨D, kvs, rfl, upd_same, fun g => hin g (mem_allGaps g)⟩
/-- gaps[g] -/
theorem e_gap {M : List Mk} {g : Gap} (hu : X.A.units + 1 < cLine) (ha : PE X a (tCan X.K es (GapsR M))) (hb : PE X b (tCan X.K es (Dat X.K (.str (gS g))))) (hs : NoSl b := by exact fun _ _ => rfl) : PE X (.Subscript a b pos) (tCan X.K es (Dat X.K (.bool (gapB M g)))) :=
  pe_imp (pe_dget hu ha hb hs) fun σ H Q ⟨F0, H0, F, S, k⟩ => ⟨F0, H0, F, S, fun x F1 H1 g1 ⟨p, kvs, e, h, q⟩ => ⟨F0, H0, F1, S.grow g1, fun y F2 H2 g2 r2 => by
    refine ⟨p, .bl (gapB M g), e, ?_, k _ F2 H2 (g1.trans g2) (.bl _)⟩
    have := DGet.k (k := .inr (gS g)) (g2.fh _ _ (g2.ff _ _ h))
    rw [q g] at this
    rw [dat_str r2]
    exact this⟩⟩
end
theorem eqv_nil (ds : List PyData) : (!PyData.eqv (.list ds) (.list [])) = !ds.isEmpty := by
  cases ds <;> rfl
abbrev FGaps (P : Program) (w : World) (K : PySem.W.Frag) (mg : Str → Option Value) (base : Heap) : Prop :=
  FnD P w K mg base 4 "gaps_of" (fun i : List Mk × Bool => i.1.length ≤ 1000) (fun i => [Dat K (tabD i.1 i.2)]) (fun i => GapsR i.1)
theorem shd_ms (ms : List Mk) : Shd 3 (msD ms) := shd_tup (shd_map _ shd_mk)
theorem f_gaps (G : Gls K mg) (D : DefAt K mg "gaps_of" s_gaps_of) (FK : FKnown P w K mg base) (FO : FOpen P w K mg base) : FGaps P w K mg base :=
  def_D D S_gaps_of (fun f fd F => F.binds fun _ _ _ _ _ _ us hl => match us, hl with | [_], _ => rfl) (fun _ => inferInstance) (fun _ => rfl) fun f cdv A outer s0 H E hr ⟨M, rs⟩ hM => by
    have hM : M.length ≤ 1000 := hM
    have hu' := hu64 hr
    refine ss_to [.is (Dat K (tabD M rs)), .no, .no] ?_
    refine ss_c (s_set 1 (e_call FK (M, rs) hM (hr.mono (by decide)) (a_cons (e_v 0) a_nil)) S_gaps_of.nd) ?_
    exact ss_one (s_ret (e_dcGaps (own := [("gap", 2)]) 2 rfl S_gaps_of.nd (i_tup (e_g G.gaps)) (blkOk_by (N := N_gaps_of) (sc := defScope s_gaps_of) (by decide +kernel)) (by simp) (fun _ _ _ _ _ => pg_name (i := 2) S_gaps_of.nd rfl (.inl rfl)) (fun g _ _ _ _ _ => e_v 2)
      (fun g _ _ _ _ _ => e_is (e_ne hu' (e_call FO (M, g) trivial hr (a_cons (e_v 1) (a_cons (e_v 2) a_nil))) (e_trk (e_lst d_nil)) (shaped_of (shd_lst (shd_map _ shd_ms)) (by decide)) (shaped_of (n := 1) (shd_lst (by simp)) (by decide)) (nomark _)) (by rw [eqv_nil]; unfold gapB; cases openM M g <;> rfl))))
end Sr
/-! the walk: check_word, ways, breaks, holds -/
namespace Sr
open PySem PySem.Spec PyProof.Rows L2 Dl Sb Nd
variable {P : Program} {w : World} {K : PySem.W.Frag} {mg : Str → Option Value} {base : Heap}
def wayD (wy : List Gap × Nat) : PyData := .tuple [.tuple (wy.1.map fun g => .str (gS g)), .int wy.2]
def waysD (rs : Bool) (wd : Word) : PyData := .tuple ((ways rs wd).map wayD)
def boolLeaf (b : Bool) : Leaf := .num (if b = true then 1 else 0)
def LeafDct (P : Program) (w : World) (K : PySem.W.Frag) (a : Addr) (b : Bool) (v : V) : Prop :=
  ∃ es n u, K.lookup a = some ⟨.type "dict", none, .dict es n, #[]⟩ ∧ KeysOf (leafKind P w) es ∧ findBy (leafKind P w).is es (boolLeaf b) = some u ∧ RelV v u
structure WaysK (P : Program) (w : World) (K : PySem.W.Frag) (mg : Str → Option Value) : Prop where
  ways : ∃ a, mg "WAYS" = some (.ref a) ∧ ∀ wd, wd ≠ .safe → ∃ v, KDct K w a (wS wd) v ∧ ∀ rs, Dp K (fun _ => none) v (waysD rs wd)
  safe : ∃ a, mg "SAFE_WAYS" = some (.ref a) ∧ ∀ b, ∃ v, LeafDct P w K a b v ∧ Dp K (fun _ => none) v (waysD b .safe)
section
variable {X : Cx} {es : List Ent} {a b e : Expr} {pos p2 p3 : Pos}
theorem ix_leaf : IxR X (fun x y H Q => ∃ p c v, x = .ref p ∧ y = .bl c ∧ LeafDct X.prog X.w X.K p c v ∧ Q v H) := by
  intro value slice pins s σ H x y v u Q I rx ry h hs
  obtain ⟨p, c, r, rfl, rfl, ⟨en, n, u0, hl, hk, hf, ru⟩, q⟩ := h
  obtain rfl : v = Value.ref p := rx
  cases ry
  have hm : s.heap.MapOf (leafKind X.prog X.w) p (fun k => findBy (leafKind X.prog X.w).is en k) := ⟨_, en, n, I.kIn _ _ hl, ⟨rfl, rfl, rfl⟩, rfl, hk, fun _ => rfl⟩
  have hkey : (leafKind X.prog X.w).is (boolLeaf c) (.bool c) = true := by cases c <;> rfl
  exact tail_any hm.typeIs slot_dict_getitem.lookup (wpAny_getItem_of hkey hm hf ⟨r, H, I.tok _, ru, q⟩) hs
theorem e_ixLf {d : Addr} {c : Bool} {v : V} {dt : PyData} (D : LeafDct X.prog X.w X.K d c v) (hv : Dp X.K (fun _ => none) v dt) (ha : PE X a (tCan X.K es (Is (.ref d)))) (hb : PE X b (tCan X.K es (Dat X.K (.bool c)))) (hs : PlainIx b := by exact fun _ _ => rfl) : PE X (.Subscript a b pos) (tCan X.K es (Dat X.K dt)) :=
  pe_imp (pe_ix ix_leaf ha hb hs) (can2 fun x y F H Q s hx hy k => ⟨d, c, v, hx, dat_bl hy, D, can_now (R := Dat X.K dt) s (dp_mono (fun _ _ q => by cases q) _ _ hv) k⟩)
theorem e_isStr {z : Str} (hm : X.mg "isinstance" = none) (hm2 : X.mg "str" = none) (h : PE X e (tCan X.K es (Dat X.K (.str z)))) (hg : Gl X "isinstance" := by rfl) (hg2 : Gl X "str" := by rfl) (h1 : starEach [e, .Name "str" p3] X.env = (false, eval e X.env) :: starEach [.Name "str" p3] X.env := by rfl) (h2 : starEach [.Name "str" p3] X.env = (false, eval (.Name "str" p3) X.env) :: starEach [] X.env := by rfl)
    (h3 : (backTo pos (starEach [.Name "str" p3] X.env)).any (·.1) = false := by rfl) : PE X (.Call (.Name "isinstance" p2) [e, .Name "str" p3] [] pos) (tCan X.K es (Dat X.K (.bool true))) :=
  pe_imp (pe_callB call_isi hg hm boot_isinstance (pa_cons h (pa_cons (pe_bltn (v := .ty "str") hg2 hm2 boot_str rfl) pa_nil h2) h1) (he := h1) (hpl := h3)) fun σ H Q ⟨F0, H0, F, S, k⟩ => ⟨F0, H0, F, S, fun x F1 H1 g1 r1 =>
    ⟨x, .ty "str", .type "str", .type "str", true, rfl, .ty _, by rw [dat_str r1]; exact .base (by constructor), kit_ty (by decide +kernel), k _ F1 H1 g1 (.bl _)⟩⟩
end
theorem s_drop {X : Cx} {es : List Ent} {e : Expr} {pos : Pos} {R : Rel} (h : PE X e (tCan K es R)) (hs : swapsWith e none pos.line X.env = pure false := by rfl) : PS X (.Expr e pos) (tSt K es (.nx (· = es))) :=
  ps_imp (ps_expr h hs) fun D σ H ⟨F0, H0, F, S, k⟩ => ⟨F0, H0, F, S, fun v F' H' g r => k es σ F' H' rfl g.ff (S.grow g)⟩
theorem pss_ff {X : Cx} {es : List Ent} {r : List Stmt} {o : Out} {c : Bool} (h : c = false) : c = true → PSs X r (tSt K es o) := fun z => by rw [h] at z; cases z
abbrev FCheck (P : Program) (w : World) (K : PySem.W.Frag) (mg : Str → Option Value) (base : Heap) : Prop :=
  FnD P w K mg base 1 "check_word" (fun _ : Word => True) (fun wd => [Dat K (.str (wS wd))]) (fun _ => Dat K .none)
theorem f_check (B : Bi mg) (G : Gls K mg) (D : DefAt K mg "check_word" s_check_word) : FCheck P w K mg base :=
  def_N D S_check_word (fun f fd F => F.binds fun _ _ _ _ _ _ us hl => match us, hl with | [_], _ => rfl) (fun _ => inferInstance) (fun _ => rfl) fun f cdv A outer s0 H E hr wd _ => by
    have hu := hu65 hr
    refine ss_to [.is (Dat K (.str (wS wd)))] ?_
    have hin : (words.map fun x => PyData.str (wS x)).any (fun z => PyData.eqv z (.str (wS wd))) = true := List.any_eq_true.mpr ⟨.str (wS wd), List.mem_map.mpr ⟨wd, by cases wd <;> decide, rfl⟩, by rw [eqv_w]; exact decide_eq_true rfl⟩
    refine ss_nx (ss_one (s_if (c := !true || !((words.map fun x => PyData.str (wS x)).any (fun z => PyData.eqv z (.str (wS wd))))) (PW.pt (w_or (t_not (t_val (e_isStr B.isinstance B.str (e_v 0)))) fun _ => w_or1 (t_ninT (d := .str (wS wd)) (ds := words.map fun x => .str (wS x)) hu (e_v 0) (e_g G.props) (shaped_of (shd_w wd) (by decide)) (shaped_of (shd_tup (shd_map _ shd_w)) (by decide))))) (pss_ff (by rw [hin]; rfl)) (fun _ => ss_nil))) fun _ _ => trivial
abbrev FWays (P : Program) (w : World) (K : PySem.W.Frag) (mg : Str → Option Value) (base : Heap) : Prop :=
  FnD P w K mg base 1 "ways_to_break" (fun _ : Bool × Word => True) (fun i => [Dat K (.bool i.1), Dat K (.str (wS i.2))]) (fun i => Dat K (waysD i.1 i.2))
theorem f_ways (G : Gls K mg) (WK : WaysK P w K mg) (D : DefAt K mg "ways_to_break" s_ways_to_break) : FWays P w K mg base :=
  def_D D S_ways_to_break (fun f fd F => F.binds fun _ _ _ _ _ _ us hl => match us, hl with | [_, _], _ => rfl) (fun _ => inferInstance) (fun _ => rfl) fun f cdv A outer s0 H E hr ⟨rs, wd⟩ _ => by
    have hu' := hu64 hr
    obtain ⟨a1, hw1, hw2⟩ := WK.ways
    obtain ⟨a2, hs1, hs2⟩ := WK.safe
    refine ss_to [.is (Dat K (.bool rs)), .is (Dat K (.str (wS wd)))] ?_
    refine ss_one (s_ret (e_if (t_is (t_eq hu' (e_v 1) (e_g G.safeP) (shaped_of (shd_w wd) (by decide)) (shaped_of (shd_w .safe) (by decide)) (nomark _)) (eqv_w wd .safe)) (fun h => ?_) (fun h => ?_)))
    · have h : wd = .safe := of_decide_eq_true h
      subst h
      obtain ⟨v, hv1, hv2⟩ := hs2 rs
      exact e_ixLf hv1 hv2 (e_gl hs1 rfl) (e_v 0)
    · obtain ⟨v, hv1, hv2⟩ := hw2 wd (of_decide_eq_false h)
      exact e_ixKD hv1 (hv2 rs) (e_gl hw1 rfl) (e_v 1)
abbrev FBreaks (P : Program) (w : World) (K : PySem.W.Frag) (mg : Str → Option Value) (base : Heap) : Prop :=
  FnD P w K mg base 2 "breaks" (fun _ : List Mk × Bool × Word => True) (fun i => [GapsR i.1, Dat K (.bool i.2.1), Dat K (.str (wS i.2.2))]) (fun i => Dat K (.bool ((ways i.2.1 i.2.2).any (allOpen i.1))))
theorem ways_len (rs : Bool) (wd : Word) : (ways rs wd).length ≤ 100 ∧ ∀ wy ∈ ways rs wd, wy.1.length ≤ 100 := by
  cases wd <;> cases rs <;> decide
theorem f_breaks (B : Bi mg) (D : DefAt K mg "breaks" s_breaks) (FW : FWays P w K mg base) : FBreaks P w K mg base :=
  def_D D S_breaks (fun f fd F => F.binds fun _ _ _ _ _ _ us hl => match us, hl with | [_, _, _], _ => rfl) (fun _ => inferInstance) (fun _ => rfl) fun f cdv A outer s0 H E hr ⟨M, rs, wd⟩ _ => by
    have hu1 : (A.deeper (envOfC "breaks" (defScope s_breaks) s0.heap.objs.size f cdv)).units + 1 < cLine := by have := hr.un; omega
    obtain ⟨wl1, wl2⟩ := ways_len rs wd
    refine ss_to [.is (GapsR M), .is (Dat K (.bool rs)), .is (Dat K (.str (wS wd))), .no, .no, .no] ?_
    refine ss_one (s_ret (e_any (p := allOpen M) (xs := ways rs wd) rfl B.any (e_lsdT (e_trk (e_lc0 (own := [("needed", 4), ("count", 5)]) (enc := wayD) (f := fun wy => .bool (allOpen M wy)) rfl S_breaks.nd (i_tup (e_call FW (rs, wd) trivial hr (a_cons (e_v 1) (a_cons (e_v 2) a_nil)))) (blkOk_by (N := N_breaks) (sc := defScope s_breaks) (by decide +kernel))
      (fun _ _ _ _ _ => pg_tup rfl (pgs_cons (pg_name (i := 4) S_breaks.nd rfl (.inl rfl)) (pgs_cons (pg_name (i := 5) S_breaks.nd rfl (.inl rfl)) pgs_nil))) (fun wy _ => tg_pair 4 5 _ _) (by simp)
      (fun wy hw _ _ _ _ _ => e_all (p := gapB M) (xs := wy.1) rfl B.all (e_lsdT (e_trk (e_lc0 (own := [("gap", 3)]) (enc := fun g => .str (gS g)) (f := fun g => .bool (gapB M g)) rfl S_breaks.nd (i_tup (e_v 4)) (blkOk_by (by kernel_rfl)) (fun _ _ _ _ _ => pg_name (i := 3) S_breaks.nd rfl (.inl rfl)) (fun n _ => tg_name 3 _) (by simp)
        (fun g _ _ _ _ _ _ => e_gap hu1 (e_v 0) (e_v 3)) (by have := wl2 wy hw; omega))))) (by omega))))))
abbrev FHolds (P : Program) (w : World) (K : PySem.W.Frag) (mg : Str → Option Value) (base : Heap) : Prop :=
  FnD P w K mg base 5 "holds" (fun i : List Mk × Bool × Word => i.1.length ≤ 1000) (fun i => [Dat K (tabD i.1 i.2.1), Dat K (.str (wS i.2.2))]) (fun i => Dat K (.bool (!(ways i.2.1 i.2.2).any (allOpen i.1))))
theorem f_holds (D : DefAt K mg "holds" s_holds) (FC : FCheck P w K mg base) (FG : FGaps P w K mg base) (FB : FBreaks P w K mg base) : FHolds P w K mg base :=
  def_D D S_holds (fun f fd F => F.binds fun _ _ _ _ _ _ us hl => match us, hl with | [_, _], _ => rfl) (fun _ => inferInstance) (fun _ => rfl) fun f cdv A outer s0 H E hr ⟨M, rs, wd⟩ hM => by
    have hM : M.length ≤ 1000 := hM
    refine ss_to [.is (Dat K (tabD M rs)), .is (Dat K (.str (wS wd)))] ?_
    refine ss_c (s_drop (e_call FC wd trivial (hr.mono (by decide)) (a_cons (e_v 1) a_nil))) ?_
    exact ss_one (s_ret (e_not (e_call FB (M, rs, wd) trivial (hr.mono (by decide)) (a_cons (e_call FG (M, rs) hM hr (a_cons (e_v 0) a_nil)) (a_cons (e_ixT (d := .bool rs) (ds := [.tuple (M.map mkD), .bool rs]) (e_v 0) e_int (by decide) rfl) (a_cons (e_v 1) a_nil))))))
end Sr
/-! the walk: cut_entry, steps_of_way, shortest_way, fewest_steps -/
namespace Sr
open PySem PySem.Spec PyProof.Rows L2 Dl Sb Nd
variable {P : Program} {w : World} {K : PySem.W.Frag} {mg : Str → Option Value} {base : Heap}
def entD (e : Bool × Option C) : PyData := .tuple [.str (kS e.1), .str (ocS e.2)]
theorem eqv_ent (a b : Bool × Option C) : PyData.eqv (entD a) (entD b) = decide (a = b) := by
  show PyData.eqvAll ([kS a.1, ocS a.2].map .str) ([kS b.1, ocS b.2].map .str) = _
  rw [eqvAll_str]
  obtain ⟨k, o⟩ := a
  obtain ⟨k', o'⟩ := b
  by_cases h : (k, o) = (k', o')
  · cases h; simp
  · rw [decide_eq_false h]
    refine decide_eq_false fun z => h ?_
    simp only [List.cons.injEq, and_true] at z
    rw [kS_inj z.1, ocS_inj z.2]
theorem shd_ent (e : Bool × Option C) : Shd 2 (entD e) := shd_tup (by
  obtain ⟨k, o⟩ := e
  intro d hd
  simp only [List.mem_cons, List.not_mem_nil, or_false] at hd
  rcases hd with rfl | rfl
  · exact shd_str (by cases k <;> decide +kernel)
  · refine shd_str ?_
    cases o with
    | none => decide +kernel
    | some c => cases c <;> decide +kernel)
theorem open_cut {M : List Mk} {ms : List Mk} (h : ms ∈ openM M .cutGrey) : ∃ k n, ms = [.so k .grey (some .white) n .old] := by
  have h1 := (List.mem_filter.mp h).1
  obtain ⟨m, hm, rfl⟩ := List.mem_map.mp h1
  obtain ⟨k, n, rfl⟩ := of_mem_cuts hm
  exact ⟨k, n, rfl⟩
theorem open_len (M : List Mk) : (openM M .cutGrey).length ≤ 8 := Nat.le_trans (List.length_filter_le _ _) (by decide)
abbrev FEntry (P : Program) (w : World) (K : PySem.W.Frag) (mg : Str → Option Value) (base : Heap) : Prop :=
  FnD P w K mg base 4 "cut_entry" (fun M : List Mk => openM M .cutGrey ≠ []) (fun M => [KnownR P w K M, Dat K (.str (gS .cutGrey))]) (fun M => Dat K (entD (cutEntry M)))
theorem f_entry (G : Gls K mg) (D : DefAt K mg "cut_entry" s_cut_entry) (FO : FOpen P w K mg base) : FEntry P w K mg base :=
  def_D D S_cut_entry (fun f fd F => F.binds fun _ _ _ _ _ _ us hl => match us, hl with | [_, _], _ => rfl) (fun _ => inferInstance) (fun _ => rfl) fun f cdv A outer s0 H E hr M hne => by
    have hu' := hu64 hr
    have hne : openM M .cutGrey ≠ [] := hne
    have hl := open_len M
    refine ss_to [.is (KnownR P w K M), .is (Dat K (.str (gS .cutGrey))), .no, .no, .no, .no] ?_
    refine ss_c (s_lc0 2 (f := fun ms => entD (entryOf ms)) (own := [("marks", 4)]) (enc := msD) (xs := openM M .cutGrey) rfl S_cut_entry.nd (i_lst (e_call FO (M, .cutGrey) trivial hr (a_cons (e_v 0) (a_cons (e_v 1) a_nil)))) (blkOk_by (N := N_cut_entry) (sc := defScope s_cut_entry) (by decide +kernel)) (fun _ _ _ _ _ => pg_name (i := 4) S_cut_entry.nd rfl (.inl rfl)) (fun n _ => tg_name 4 _) (by simp)
      (fun ms hm _ _ _ _ _ => ?_) (by omega)) (ss_frz 2 rfl ?_)
    · obtain ⟨k, n, rfl⟩ := open_cut hm
      exact e_tup (d_cons (e_ixT (d := .str (kS k)) (ds := (mkS (.so k .grey (some .white) n .old)).map .str) (e_ixT (d := mkD (.so k .grey (some .white) n .old)) (ds := [mkD (.so k .grey (some .white) n .old)]) (e_v 4) e_int (by decide) rfl) e_int (by decide) rfl) (d_cons (e_ixT (d := .str (ocS n)) (ds := (mkS (.so k .grey (some .white) n .old)).map .str) (e_ixT (d := mkD (.so k .grey (some .white) n .old)) (ds := [mkD (.so k .grey (some .white) n .old)]) (e_v 4) e_int (by decide) rfl) e_int (by decide) rfl) d_nil)) (by show (2 : Nat) ≤ 100000; decide)
    have hent : ((openM M .cutGrey).map fun ms => entD (entryOf ms)) = (entries M).map entD := by
      unfold Sb.entries
      rw [List.map_map]
      rfl
    have hel : (entries M).length ≤ 8 := by
      unfold Sb.entries
      rw [List.length_map]
      exact hl
    refine ss_to [.is (KnownR P w K M), .is (Dat K (.str (gS .cutGrey))), .is (Dat K (.list ((entries M).map entD))), .no, .no, .no] ?_ (by rw [← hent]; rfl)
    refine ss_c (s_lc 3 (c := fun e => decide (e ≠ hard)) (f := entD) (ds := (easy M).map entD) (own := [("entry", 5)]) (enc := entD) (xs := entries M) rfl rfl S_cut_entry.nd (i_lst (e_v 2)) (blkOk_by (N := N_cut_entry) (sc := defScope s_cut_entry) (by decide +kernel)) (fun _ _ _ _ _ => pg_name (i := 5) S_cut_entry.nd rfl (.inl rfl)) (fun n _ => tg_name 5 _) (by simp)
      (fun e _ _ _ _ _ _ => ts_one (t_is (t_ne (d := entD e) (e := entD hard) hu' (e_v 5) (e_tup (d_cons (e_g G.scanned) (d_cons (e_g G.white) d_nil))) (shaped_of (shd_ent e) (by decide)) (shaped_of (shd_ent hard) (by decide)) (nomark _)) (by rw [eqv_ent]; by_cases h : e = hard <;> simp [h]))) (fun e _ _ _ _ _ _ _ => e_v 5) (by omega)) ?_
    refine ss_one (s_ret (e_if (c := !(easy M).isEmpty) (t_is (t_ne hu' (e_o 3) (e_trk (e_lst d_nil)) (shaped_of (shd_lst (shd_map _ shd_ent)) (by decide)) (shaped_of (n := 1) (shd_lst (by simp)) (by decide)) (nomark _)) (by rw [eqv_nil]; cases easy M <;> rfl)) (fun h => ?_) (fun h => ?_)))
    · refine e_ixL (e_lsdT (e_o 3)) e_int (by decide) ?_
      unfold cutEntry
      cases he : easy M with
      | nil => rw [he] at h; cases h
      | cons a r => rfl
    · refine e_ixL (e_lsd (e_v 2)) e_int (by decide) ?_
      unfold cutEntry
      cases he : easy M with
      | nil =>
        cases hn : entries M with
        | nil =>
          have : openM M .cutGrey = [] := by
            unfold Sb.entries at hn
            exact List.map_eq_nil_iff.mp hn
          exact absurd this hne
        | cons a r => rfl
      | cons a r => rw [he] at h; cases h
structure WayI where
  M : List Mk
  wy : List Gap × Nat
abbrev FSteps (P : Program) (w : World) (K : PySem.W.Frag) (mg : Str → Option Value) (base : Heap) : Prop :=
  FnD P w K mg base 5 "steps_of_way" (fun i : WayI => allOpen i.M i.wy = true) (fun i => [KnownR P w K i.M, Dat K (.tuple (i.wy.1.map fun g => .str (gS g))), Dat K (.int i.wy.2)]) (fun i => Dat K (.int (stepsOf i.M i.wy : Nat)))
theorem any_gap (gs : List Gap) (g : Gap) : (gs.map fun g => PyData.str (gS g)).any (fun z => PyData.eqv z (.str (gS g))) = decide (g ∈ gs) := by
  rw [List.any_map]
  have e : ((fun z => PyData.eqv z (.str (gS g))) ∘ fun g => PyData.str (gS g)) = fun n => decide (n = g) := funext fun n => eqv_g n g
  rw [e]
  by_cases h : g ∈ gs
  · rw [decide_eq_true h]
    exact List.any_eq_true.mpr ⟨g, h, decide_eq_true rfl⟩
  · rw [decide_eq_false h]
    refine List.any_eq_false.mpr fun n hn => ?_
    simp only [decide_eq_true_eq]
    intro e
    exact h (e ▸ hn)
theorem f_steps (B : Bi mg) (G : Gls K mg) (D : DefAt K mg "steps_of_way" s_steps_of_way) (FE : FEntry P w K mg base) : FSteps P w K mg base :=
  def_D D S_steps_of_way (fun f fd F => F.binds fun _ _ _ _ _ _ us hl => match us, hl with | [_, _, _], _ => rfl) (fun _ => inferInstance) (fun _ => rfl) fun f cdv A outer s0 H E hr ⟨M, gs, n⟩ ha => by
    have hu := hu65 hr
    have hu' := hu64 hr
    have ha : gs.all (gapB M) = true := ha
    refine ss_to [.is (KnownR P w K M), .is (Dat K (.tuple (gs.map fun g => .str (gS g)))), .is (Dat K (.int n))] ?_
    refine ss_one (s_ret (e_is (e_add (e_v 2) (e_intB B.int (e_and (c := decide (Gap.cutGrey ∈ gs)) (d := decide (cutEntry M = hard)) (e_is (e_inT (d := .str (gS .cutGrey)) (ds := gs.map fun g => .str (gS g)) hu (e_g G.cutGrey) (e_v 1) (shaped_of (shd_g .cutGrey) (by decide)) (shaped_of (shd_tup (shd_map _ shd_g)) (by decide))) (congrArg PyData.bool (any_gap gs .cutGrey))) fun h => pe_one (e_is (e_eq (d := entD (cutEntry M)) (e := entD hard) hu' (e_call FE M ?_ hr (a_cons (e_v 0) (a_cons (e_g G.cutGrey) a_nil))) (e_tup (d_cons (e_g G.scanned) (d_cons (e_g G.white) d_nil))) (shaped_of (shd_ent _) (by decide)) (shaped_of (shd_ent hard) (by decide)) (nomark _)) (congrArg PyData.bool (eqv_ent _ _)))))) ?_))
    · have h1 := List.all_eq_true.mp ha _ (of_decide_eq_true h)
      intro z
      unfold gapB at h1
      rw [z] at h1
      cases h1
    · unfold stepsOf
      by_cases h1 : Gap.cutGrey ∈ gs <;> by_cases h2 : cutEntry M = hard <;> simp [h1, h2]
def fD : Option (Nat × List Gap) → PyData
  | none => .none
  | some (n, gs) => .tuple [.int n, .tuple (gs.map fun g => .str (gS g))]
abbrev FShort (P : Program) (w : World) (K : PySem.W.Frag) (mg : Str → Option Value) (base : Heap) : Prop :=
  FnD P w K mg base 6 "shortest_way" (fun i : List Mk × Bool × Word => i.1.length ≤ 1000) (fun i => [Dat K (tabD i.1 i.2.1), Dat K (.str (wS i.2.2))]) (fun i => ExD K fun d => ∃ a, d = fD a ∧ a.map (·.1) = fewest i.1 i.2.1 i.2.2)
theorem f_short (B : Bi mg) (D : DefAt K mg "shortest_way" s_shortest_way) (FG : FGaps P w K mg base) (FK : FKnown P w K mg base) (FW : FWays P w K mg base) (FS : FSteps P w K mg base) : FShort P w K mg base :=
  def_D D S_shortest_way (fun f fd F => F.binds fun _ _ _ _ _ _ us hl => match us, hl with | [_, _], _ => rfl) (fun _ => inferInstance) (fun _ => rfl) fun f cdv A outer s0 H E hr ⟨M, rs, wd⟩ hM => by
    have hM : M.length ≤ 1000 := hM
    have hu1 : (A.deeper (envOfC "shortest_way" (defScope s_shortest_way) s0.heap.objs.size f cdv)).units + 1 < cLine := by have := hr.un; omega
    obtain ⟨wl1, wl2⟩ := ways_len rs wd
    refine ss_to [.is (Dat K (tabD M rs)), .is (Dat K (.str (wS wd))), .no, .no, .no, .no, .no, .no, .no] ?_
    refine ss_c (s_tup3 2 3 4 (p_is (e_call FG (M, rs) hM (hr.mono (by decide)) (a_cons (e_v 0) a_nil)) (p_is (e_call FK (M, rs) hM (hr.mono (by decide)) (a_cons (e_v 0) a_nil)) (p_is e_non p_nil))) (by decide) (by decide) (by decide) (pg_tup rfl (pgs_cons (pg_name (i := 2) S_shortest_way.nd rfl (.inr rfl)) (pgs_cons (pg_name (i := 3) S_shortest_way.nd rfl (.inl rfl)) (pgs_cons (pg_name (i := 4) S_shortest_way.nd rfl (.inl rfl)) pgs_nil))))) ?_
    let E1 : Option (Nat × List Gap) → List Ent := fun a => [.is (Dat K (tabD M rs)), .is (Dat K (.str (wS wd))), .is (GapsR M), .is (KnownR P w K M), .is (Dat K (fD a)), .no, .no, .no, .no]
    refine ss_to (E1 none) ?_
    let step : Option Nat → List Gap × Nat → Option Nat := fun acc wy => if allOpen M wy = true then less acc (stepsOf M wy) else acc
    refine ss_cons (s_forA (α := Option (Nat × List Gap)) (fun _ a => E1 a) (fun i a => a.map (·.1) = ((ways rs wd).take i).foldl step none) none (xs := ways rs wd) (enc := wayD) rfl (i_tup (e_call FW (rs, wd) trivial (hr.mono (by decide)) (a_cons (e_ixT (d := .bool rs) (ds := [.tuple (M.map mkD), .bool rs]) (e_v 0) e_int (by decide) rfl) (a_cons (e_v 1) a_nil))))
      (pg_tup rfl (pgs_cons (pg_name (i := 5) S_shortest_way.nd rfl (.inl rfl)) (pgs_cons (pg_name (i := 6) S_shortest_way.nd rfl (.inl rfl)) pgs_nil))) (fun wy _ => tg_pair 5 6 _ _) (WkL.refl _) rfl ?_ PassesOwn.never) ?_
    · rintro i wy a hw ha
      have hwm := wl2 wy (List.mem_of_getElem? hw)
      have et : ((ways rs wd).take (i + 1)).foldl step none = step (((ways rs wd).take i).foldl step none) wy := by
        rw [List.take_add_one, hw, List.foldl_append]
        rfl
      refine ss_one (s_if (c := allOpen M wy) (t_val (e_all (p := gapB M) (xs := wy.1) rfl B.all (e_lsdT (e_trk (e_lc0 (own := [("gap", 8)]) (enc := fun g => .str (gS g)) (f := fun g => .bool (gapB M g)) rfl S_shortest_way.nd (i_tup (e_v 5)) (blkOk_by (N := N_shortest_way) (sc := defScope s_shortest_way) (by decide +kernel)) (fun _ _ _ _ _ => pg_name (i := 8) S_shortest_way.nd rfl (.inl rfl)) (fun n _ => tg_name 8 _) (by simp)
        (fun g _ _ _ _ _ _ => e_gap hu1 (e_v 2) (e_v 8)) (by omega)))))) (fun hop => ?_) (fun hop => ?_))
      · refine ss_c (s_set 7 (e_call FS ⟨M, wy⟩ hop hr (a_cons (e_v 3) (a_cons (e_v 5) (a_cons (e_v 6) a_nil)))) S_shortest_way.nd) ?_
        have hst : step (((ways rs wd).take i).foldl step none) wy = less (((ways rs wd).take i).foldl step none) (stepsOf M wy) := if_pos hop
        cases a with
        | none =>
          refine ss_end (ss_one (s_if (c := true || false) (PW.pt (w_or (c := true) (d := false) (t_isN (d := fD none) (e_v 4) e_non (nomark _)) fun h => by cases h)) (fun _ => ss_one (s_set 4 (e_tup (d_cons (e_v 7) (d_cons (e_v 5) d_nil))) S_shortest_way.nd)) (fun h => by cases h))) ⟨some (stepsOf M wy, wy.1), ?_, .same (.same (.same (.same (.same (.drop (.drop (.drop (.same .nil))))))))⟩
          rw [et, hst, ← ha]
          rfl
        | some q =>
          obtain ⟨n, gs⟩ := q
          let a' : Option (Nat × List Gap) := if stepsOf M wy < n then some (stepsOf M wy, wy.1) else some (n, gs)
          refine ss_nx (P := fun e => e = [.is (Dat K (tabD M rs)), .is (Dat K (.str (wS wd))), .is (GapsR M), .is (KnownR P w K M), .is (Dat K (fD a')), .is (Dat K (.tuple (wy.1.map fun g => .str (gS g)))), .is (Dat K (.int wy.2)), .is (Dat K (.int (stepsOf M wy : Nat))), .no]) (ss_one (s_if (c := false || decide (((stepsOf M wy : Nat) : Int) < ((n : Nat) : Int))) (PW.pt (w_or (c := false) (t_isN (d := fD (some (n, gs))) (e_v 4) e_non (nomark _)) fun _ => w_or1 (t_lt (e_v 7) (e_ixT (d := .int n) (ds := [.int n, .tuple (gs.map fun g => .str (gS g))]) (e_v 4) e_int (by decide) rfl) (nomark _)))) (fun h => ?_) (fun h => ?_))) ?_
          · refine ss_end (ss_one (s_set 4 (e_tup (d_cons (e_v 7) (d_cons (e_v 5) d_nil))) S_shortest_way.nd)) ?_
            have h : ((stepsOf M wy : Nat) : Int) < ((n : Nat) : Int) := by simpa using h
            have e : a' = some (stepsOf M wy, wy.1) := if_pos (by omega)
            rw [e]
            rfl
          · refine ss_end ss_nil ?_
            have h : ¬ ((stepsOf M wy : Nat) : Int) < ((n : Nat) : Int) := by simpa using h
            have e : a' = some (n, gs) := if_neg (by omega)
            rw [e]
            rfl
          · rintro e rfl
            refine ⟨a', ?_, .same (.same (.same (.same (.same (.drop (.drop (.drop (.same .nil))))))))⟩
            rw [et, hst, ← ha]
            show Option.map _ (if stepsOf M wy < n then some (stepsOf M wy, wy.1) else some (n, gs)) = (if stepsOf M wy < n then some (stepsOf M wy) else some n)
            split <;> rfl
      · refine ss_end ss_nil ⟨a, ?_, .same (.same (.same (.same (.same (.drop (.drop (.same (.same .nil))))))))⟩
        rw [et, ha]
        exact (if_neg (by rw [hop]; decide)).symm
    rintro e ⟨a, ha, wk⟩
    rw [List.take_length] at ha
    exact ss_pre wk (ss_one (s_ret (e_toG (e_v 4) ⟨a, rfl, ha⟩)))
abbrev FFewest (P : Program) (w : World) (K : PySem.W.Frag) (mg : Str → Option Value) (base : Heap) : Prop :=
  FnD P w K mg base 7 "fewest_steps" (fun i : List Mk × Bool × Word => i.1.length ≤ 1000) (fun i => [Dat K (tabD i.1 i.2.1), Dat K (.str (wS i.2.2))]) (fun i => Dat K (oD (fewest i.1 i.2.1 i.2.2)))
theorem f_fewest (D : DefAt K mg "fewest_steps" s_fewest_steps) (FC : FCheck P w K mg base) (FS : FShort P w K mg base) : FFewest P w K mg base :=
  def_D D S_fewest_steps (fun f fd F => F.binds fun _ _ _ _ _ _ us hl => match us, hl with | [_, _], _ => rfl) (fun _ => inferInstance) (fun _ => rfl) fun f cdv A outer s0 H E hr ⟨M, rs, wd⟩ hM => by
    have hM : M.length ≤ 1000 := hM
    refine ss_to [.is (Dat K (tabD M rs)), .is (Dat K (.str (wS wd))), .no] ?_
    refine ss_c (s_drop (e_call FC wd trivial (hr.mono (by decide)) (a_cons (e_v 1) a_nil))) ?_
    refine ss_c (s_set 2 (e_call FS (M, rs, wd) hM hr (a_cons (e_v 0) (a_cons (e_v 1) a_nil))) S_fewest_steps.nd) (ss_ex 2 ?_)
    rintro _ ⟨a, rfl, ha⟩
    refine ss_to [.is (Dat K (tabD M rs)), .is (Dat K (.str (wS wd))), .is (Dat K (fD a))] ?_
    refine ss_one (s_ret ?_)
    show PE _ _ (tCan K _ (Dat K (oD (fewest M rs wd))))
    rw [← ha]
    cases a with
    | none => exact e_if (t_isN (e_v 2) e_non (nomark _)) (fun _ => e_non) (fun h => by cases h)
    | some q => exact e_if (t_isN (e_v 2) e_non (nomark _)) (fun h => by cases h) (fun _ => e_ixT (d := .int q.1) (ds := [.int q.1, .tuple (q.2.map fun g => .str (gS g))]) (e_v 2) e_int (by decide) rfl)
end Sr
/-! the pot of numbers: take -/
namespace Sr
open PySem PySem.Spec PyProof.Rows L2 Dl Sb Nd
variable {P : Program} {w : World} {K : PySem.W.Frag} {mg : Str → Option Value} {base : Heap}
def potL (a b n : Int) : List V := [.int a, .int b, .int n]
structure PotIn (c : Nat) (a b n : Int) : Prop where
  a0 : 0 ≤ a
  b0 : 0 ≤ b
  b1 : b < 2 ^ 61
  n0 : 0 ≤ n
  n1 : n ≤ c
def PotAt (p : Addr) (c : Nat) (H : Hp) : Prop := ∃ a b n : Int, H p = some (.lst (potL a b n)) ∧ PotIn c a b n
/-- all but p is as it was -/
def But (p : Addr) (H H' : Hp) : Prop := ∀ b o, b ≠ p → H b = some o → H' b = some o
theorem But.refl (p : Addr) (H : Hp) : But p H H := fun _ _ _ h => h
theorem But.trans {p : Addr} {H H1 H2 : Hp} (a : But p H H1) (b : But p H1 H2) : But p H H2 := fun c o n h => b c o n (a c o n h)
theorem But.upd {p : Addr} {H : Hp} {o : HO} : But p H (upd H p o) := fun b u hb e => by rw [upd_ne hb]; exact e
theorem But.new {p q : Addr} {H : Hp} {o : HO} (n : H q = none) : But p H (L2.upd H q o) := fun b u hb e => by rw [upd_ne (ne_of_none e n)]; exact e
def spTake : Sp := fun vs H Q _ => ∃ (p : Addr) (m : Int) (c : Nat), vs = [.ref p, .int m] ∧ (0 < m ∧ m < 1000000) ∧ c < 1000000 ∧ PotAt p c H ∧ ∀ H' r, But p H H' → PotAt p (c + 1) H' → 0 ≤ r → r < m → Q (.int r) H'
theorem at0 {a b n : Int} : atI (potL a b n) 0 = some (.int a) := rfl
theorem at1 {a b n : Int} : atI (potL a b n) 1 = some (.int b) := rfl
theorem at2 {a b n : Int} : atI (potL a b n) 2 = some (.int n) := rfl
theorem ok_take {f : Addr} {fd : FuncData} (F : Fun K "_law_take" "_law_take" s_l_take f fd) : FnOk P w K mg base CX0 1 f fd P_l_take spTake := by
  refine F.ok S_l_take (fun vs H Q E h => ?_) (fun cdv A outer s H vs Q E hr h => ?_)
  · obtain ⟨p, m, c, rfl, _⟩ := h
    rfl
  · obtain ⟨p, m, c, rfl, ⟨hm0, hm1⟩, hc, ⟨a, b, n, hp, pi⟩, q⟩ := h
    have nd := S_l_take.nd
    refine ⟨_, pss_cons (ps_if (pt_cmpR op_gt (pe_ix ix_list (pv 0) pe_int (fun _ _ => rfl)) pe_int (nomark _))
        (pss_cons (ps_set (i := 2) nd rfl (.inl rfl) (pe_op op_mod (pe_ix ix_list (pv 0) pe_int (fun _ _ => rfl)) (pv 1)))
        (pss_cons (ps_asg (pe_op op_fdiv (pe_ix ix_list (pv 0) pe_int (fun _ _ => rfl)) (pv 1)) (pg_sub (pv 0) pe_int set_list))
        (pss_one (ps_ret (pv 2))))) pss_nil)
      (pss_cons (ps_asg (pe_op op_add (pe_ix ix_list (pv 0) pe_int (fun _ _ => rfl)) pe_int) (pg_sub (pv 0) pe_int set_list))
      (pss_cons (ps_set (i := 3) nd rfl (.inl rfl) (pe_ix ix_list (pe_lst (pa_cons pe_int (pa_cons pe_int (pa_cons pe_int (pa_cons pe_int (pa_cons pe_int pa_nil)))))) (pe_op op_mod (pe_ix ix_list (pv 0) pe_int (fun _ _ => rfl)) pe_int) (fun _ _ => rfl)))
      (pss_cons (ps_set (i := 4) nd rfl (.inl rfl) (pe_op op_mod (pe_op op_pow (pe_op op_add (pe_op op_add (pe_ix ix_list (pv 0) pe_int (fun _ _ => rfl)) (pe_op op_mul (pe_op op_mul pe_int (pe_ix ix_list (pv 0) pe_int (fun _ _ => rfl))) (pe_ix ix_list (pv 0) pe_int (fun _ _ => rfl)))) pe_int) pe_int) (pv 3)))
      (pss_one (ps_ret (pe_op op_mod (pe_op op_fdiv (pe_op op_mod (pe_op op_mul (pv 4) (pe_op op_add (pe_op op_mod (pv 4) pe_int) (pe_op op_mul pe_int (pe_ix ix_list (pv 0) pe_int (fun _ _ => rfl))))) pe_int) pe_int) (pv 1))))))), ?_⟩
    have L : SqL K H p (potL a b n) := SqL.of hp
    refine ⟨.ref p, rfl, p, _, 0, _, rfl, rfl, L, at0, a, 0, rfl, rfl, _, rfl, ite2 (fun ha => ?_) (fun _ => ?_)⟩
    · have ha : 0 < a := of_decide_eq_true ha
      -- a digit of its own
      refine ⟨.ref p, rfl, p, _, 0, _, rfl, rfl, L, at0, .int m, rfl, a, m, rfl, rfl, hm0, ?_⟩
      refine ⟨.ref p, rfl, p, _, 0, _, rfl, rfl, L, at0, .int m, rfl, a, m, rfl, rfl, ⟨hm0, by omega⟩, .ref p, rfl, p, _, 0, 0, rfl, rfl, hp, rfl, ?_⟩
      refine ⟨_, rfl, q _ _ But.upd ⟨a / m, b, n, upd_same, ⟨Int.ediv_nonneg pi.a0 (by omega), pi.b0, pi.b1, pi.n0, by have := pi.n1; omega⟩⟩ (Int.emod_nonneg _ (by omega)) (Int.emod_lt_of_pos _ hm0)⟩
    · -- n grows
      have hn0 := pi.n0
      have hn1 := pi.n1
      have hb0 := pi.b0
      have hb1 := pi.b1
      refine ⟨.ref p, rfl, p, _, 2, _, rfl, rfl, L, at2, n, 1, rfl, rfl, .ref p, rfl, p, _, 2, 2, rfl, rfl, hp, rfl, ?_⟩
      have e2 : (potL a b n).set 2 (.int (n + 1)) = potL a b (n + 1) := rfl
      rw [e2]
      have L2' : ∀ {H' : Hp}, But p (upd H p (.lst (potL a b (n + 1)))) H' → H' p = some (.lst (potL a b (n + 1))) → True := fun _ _ => trivial
      refine ⟨Nat.le_trans (show 5 ≤ 100000 by decide) (by decide), fun l nl => ?_⟩
      have nlp : l ≠ p := fun z => by rw [z, upd_same] at nl; cases nl
      have hp2 : (upd (upd H p (.lst (potL a b (n + 1)))) l (.lst [.int 2147483647, .int 2147483629, .int 2147483587, .int 2147483579, .int 2147483563])) p = some (.lst (potL a b (n + 1))) := by
        rw [upd_ne (Ne.symm nlp), upd_same]
      have hl2 : (upd (upd H p (.lst (potL a b (n + 1)))) l (.lst [.int 2147483647, .int 2147483629, .int 2147483587, .int 2147483579, .int 2147483563])) l = some (.lst [.int 2147483647, .int 2147483629, .int 2147483587, .int 2147483579, .int 2147483563]) := upd_same
      have but2 : But p H (upd (upd H p (.lst (potL a b (n + 1)))) l (.lst [.int 2147483647, .int 2147483629, .int 2147483587, .int 2147483579, .int 2147483563])) := But.upd.trans (But.new nl)
      generalize upd (upd H p (.lst (potL a b (n + 1)))) l (.lst [.int 2147483647, .int 2147483629, .int 2147483587, .int 2147483579, .int 2147483563]) = H2 at hp2 hl2 but2 ⊢
      have L2 : SqL K H2 p (potL a b (n + 1)) := SqL.of hp2
      obtain ⟨pr, hpr, hpr1, hpr2⟩ : ∃ pr : Int, atI [.int 2147483647, .int 2147483629, .int 2147483587, .int 2147483579, .int 2147483563] ((n + 1) % 5) = some (V.int pr) ∧ 0 < pr ∧ pr ≤ 2147483647 := by
        have h1 : 0 ≤ (n + 1) % 5 := Int.emod_nonneg _ (by decide)
        have h2 : (n + 1) % 5 < 5 := Int.emod_lt_of_pos _ (by decide)
        generalize (n + 1) % 5 = k at h1 h2
        have : k = 0 ∨ k = 1 ∨ k = 2 ∨ k = 3 ∨ k = 4 := by omega
        rcases this with rfl | rfl | rfl | rfl | rfl
        · exact ⟨_, rfl, by decide, by decide⟩
        · exact ⟨_, rfl, by decide, by decide⟩
        · exact ⟨_, rfl, by decide, by decide⟩
        · exact ⟨_, rfl, by decide, by decide⟩
        · exact ⟨_, rfl, by decide, by decide⟩
      refine ⟨.ref p, rfl, p, _, 2, _, rfl, rfl, L2, at2, n + 1, 5, rfl, rfl, by show (0 : Int) < 5; decide, l, _, _, _, rfl, rfl, SqL.of hl2, hpr, ?_⟩
      -- the mix
      have big1 : (65537 * (n + 1) * (n + 1)) ≤ 65537 * 1000001 * 1000001 := Int.mul_le_mul (Int.mul_le_mul_of_nonneg_left (by omega) (by decide)) (by omega) (by omega) (by decide)
      have big0 : 0 ≤ 65537 * (n + 1) * (n + 1) := Int.mul_nonneg (Int.mul_nonneg (by decide) (by omega)) (by omega)
      refine ⟨.ref p, rfl, p, _, 1, _, rfl, rfl, L2, at1, .ref p, rfl, p, _, 2, _, rfl, rfl, L2, at2, 65537, n + 1, rfl, rfl, .inl ⟨by decide, by decide⟩, .ref p, rfl, p, _, 2, _, rfl, rfl, L2, at2, 65537 * (n + 1), n + 1, rfl, rfl, .inr ⟨by omega, by omega⟩, b, 65537 * (n + 1) * (n + 1), rfl, rfl, b + 65537 * (n + 1) * (n + 1), 41, rfl, rfl, ?_⟩
      generalize 65537 * (n + 1) * (n + 1) = t at big0 big1
      refine ⟨b + t + 41, 3, rfl, rfl, ⟨by decide, by decide, by omega⟩, .int pr, rfl, _, pr, rfl, rfl, hpr1, ?_⟩
      obtain ⟨x, hx, x0, x1⟩ : ∃ x, V.int ((b + t + 41) ^ (3 : Int).toNat % pr) = .int x ∧ 0 ≤ x ∧ x < pr := ⟨_, rfl, Int.emod_nonneg _ (by omega), Int.emod_lt_of_pos _ hpr1⟩
      have y0 := Int.emod_nonneg x (show (10007 : Int) ≠ 0 by decide)
      have y1 := Int.emod_lt_of_pos x (show (0 : Int) < 10007 by decide)
      refine ⟨.int x, by rw [← hx]; rfl, .int x, by rw [← hx]; rfl, x, 10007, rfl, rfl, by show (0 : Int) < 10007; decide, .ref p, rfl, p, _, 2, _, rfl, rfl, L2, at2, 89, n + 1, rfl, rfl, .inl ⟨by decide, by decide⟩, x % 10007, 89 * (n + 1), rfl, rfl, x, x % 10007 + 89 * (n + 1), rfl, rfl, .inl ⟨by omega, by omega⟩, ?_⟩
      refine ⟨_, 2305843009213693921, rfl, rfl, by show (0 : Int) < 2305843009213693921; decide, _, 101, rfl, rfl, ⟨by decide, by decide⟩, .int m, rfl, _, m, rfl, rfl, hm0, ?_⟩
      exact q _ _ but2 ⟨a, b, n + 1, hp2, ⟨pi.a0, hb0, hb1, by omega, by omega⟩⟩ (Int.emod_nonneg _ (by omega)) (Int.emod_lt_of_pos _ hm0)
end Sr
/-! the calculus beside a pot: numbers are drawn, the rest is as before -/
namespace Sr
open PySem PySem.Spec PyProof.Rows L2 Dl Sb Nd
/-- the heap without p -/
def wo (p : Addr) (H : Hp) : Hp := fun b => if b = p then none else H b
theorem wo_self {p : Addr} {H : Hp} : wo p H p = none := if_pos rfl
theorem wo_ne {p b : Addr} {H : Hp} (h : b ≠ p) : wo p H b = H b := if_neg h
theorem wo_some {p b : Addr} {H : Hp} {o : HO} (h : wo p H b = some o) : b ≠ p ∧ H b = some o := by
  by_cases hb : b = p
  · rw [hb, wo_self] at h; cases h
  · rw [wo_ne hb] at h; exact ⟨hb, h⟩
theorem wo_sub (p : Addr) (H : Hp) : Same (wo p H) H := fun b o h => (wo_some h).2
theorem same_wo {p : Addr} {F H : Hp} (s : Same F H) (n : F p = none) : Same F (wo p H) := fun b o h => by
  have hb : b ≠ p := fun z => by rw [z, n] at h; cases h
  rw [wo_ne hb]
  exact s b o h
theorem wo_same {p : Addr} {H H' : Hp} (s : Same H H') : Same (wo p H) (wo p H') := fun b o h => by
  obtain ⟨hb, h⟩ := wo_some h
  rw [wo_ne hb]
  exact s b o h
theorem same_free {p : Addr} {F H : Hp} (s : Same F (wo p H)) : F p = none := s.free wo_self
theorem PotAt.mono {p : Addr} {c c' : Nat} {H : Hp} (h : PotAt p c H) (l : c ≤ c') : PotAt p c' H :=
  let ⟨a, b, n, e, q⟩ := h
  ⟨a, b, n, e, q.a0, q.b0, q.b1, q.n0, by have := q.n1; omega⟩
theorem PotAt.some {p : Addr} {c : Nat} {H : Hp} (h : PotAt p c H) : H p ≠ none := by
  obtain ⟨a, b, n, e, _⟩ := h
  rw [e]
  exact fun z => by cases z
theorem PotAt.same {p : Addr} {c : Nat} {H H' : Hp} (h : PotAt p c H) (s : H p = H' p) : PotAt p c H' := by
  obtain ⟨a, b, n, e, q⟩ := h
  exact ⟨a, b, n, by rw [← s]; exact e, q⟩
theorem PotAt.keep {p : Addr} {c : Nat} {H H' : Hp} (h : PotAt p c H) (s : Same H H') : PotAt p c H' := by
  obtain ⟨a, b, n, e, q⟩ := h
  exact ⟨a, b, n, s _ _ e, q⟩
/-- a growth beside the pot -/
theorem grow_wo {p : Addr} {F H F' H' : Hp} (s : Same F (wo p H)) (hp : H p ≠ none) (g : Grow F H F' H') : Grow F (wo p H) F' (wo p H') :=
  ⟨g.ff, same_wo g.fh (g.nw p (same_free s) hp), wo_same g.hh, fun b e n => g.nw b e fun z => n (by
    by_cases hb : b = p
    · rw [hb]; exact wo_self
    · rw [wo_ne hb]; exact z)⟩
section
variable {K : PySem.W.Frag} {es : List Ent} {F0 H0 F H : Hp} {σ : L2.St} {p : Addr}
theorem slot_up {o : Option (Option V)} {e : Ent} {H0' : Hp} (h : SlotOk K H0 F (wo p H) o e) (h0 : ∀ q, q ≠ p → H0 q = none → H0' q = none) : SlotOk K H0' F H o e := by
  cases e with
  | no => trivial
  | is R =>
    obtain ⟨m, v, e, r⟩ := h
    exact ⟨m, v, e, m.m _ _ _ _ _ (Same.refl F) r⟩
  | own ds =>
    obtain ⟨q, vs, e, n0, n, hq, a⟩ := h
    obtain ⟨hb, hq⟩ := wo_some hq
    exact ⟨q, vs, e, h0 q hb n0, n, hq, a⟩
/-- the words about the slots, with the pot in sight -/
theorem _root_.Dl.Sv.up (S : Sv K es F0 H0 F (wo p H) σ) : Sv K es F0 H0 F H σ :=
  ⟨S.s0, ⟨S.g.ff, S.g.fh.trans (wo_sub p H), S.g.hh.trans (wo_sub p H), S.g.nw⟩, S.len, fun i e h => slot_up (S.ok i e h) fun _ _ h => h, S.df⟩
def withP (p : Addr) (H0 H : Hp) : Hp := fun b => if b = p then H p else H0 b
/-- .. and the pot held -/
theorem _root_.Dl.Sv.held (S : Sv K es F0 H0 F (wo p H) σ) : Sv K es F0 (withP p H0 H) F H σ := by
  have f0 : F0 p = none := (S.s0.trans S.g.hh).free wo_self
  have h0 : H0 p = none := S.g.hh.free wo_self
  refine ⟨fun b o e => ?_, ⟨S.g.ff, S.g.fh.trans (wo_sub p H), fun b o e => ?_, fun b e n => ?_⟩, S.len, fun i e h => slot_up (S.ok i e h) fun q hq z => ?_, S.df⟩
  · have hb : b ≠ p := fun z => by rw [z, f0] at e; cases e
    show (if b = p then _ else _) = _
    rw [if_neg hb]
    exact S.s0 b o e
  · by_cases hb : b = p
    · subst hb
      have e : (if b = b then H b else _) = some o := e
      rw [if_pos rfl] at e
      exact e
    · have e : (if b = p then _ else H0 b) = some o := e
      rw [if_neg hb] at e
      exact wo_sub p H b o (S.g.hh b o e)
  · by_cases hb : b = p
    · rw [hb]; exact same_free S.g.fh
    · have n : (if b = p then _ else H0 b) ≠ none := n
      rw [if_neg hb] at n
      exact S.g.nw b e n
  · show (if q = p then _ else H0 q) = none
    rw [if_neg hq]
    exact z
theorem grow_back {F' H' : Hp} (h0 : H0 p = none) (f0 : F0 p = none) (hp : H p ≠ none) (g : Grow F0 (withP p H0 H) F' H') : Grow F0 H0 F' (wo p H') ∧ H' p = H p := by
  have np : F' p = none := g.nw p f0 (by show (if p = p then H p else _) ≠ none; rw [if_pos rfl]; exact hp)
  refine ⟨⟨g.ff, same_wo g.fh np, fun b o e => ?_, fun b e n => g.nw b e fun z => n ?_⟩, ?_⟩
  · have hb : b ≠ p := fun z => by rw [z, h0] at e; cases e
    rw [wo_ne hb]
    exact g.hh b o (by show (if b = p then _ else H0 b) = some o; rw [if_neg hb]; exact e)
  · have z : (if b = p then H p else H0 b) = none := z
    by_cases hb : b = p
    · rw [hb]; exact h0
    · rw [if_neg hb] at z; exact z
  · cases e : H p with
    | none => exact absurd e hp
    | some o => exact g.hh p o (by show (if p = p then H p else _) = some o; rw [if_pos rfl]; exact e)
theorem _root_.Dl.Sv.back {H1 F' H' : Hp} (h0 : H0 p = none) (hp : H1 p ≠ none) (S : Sv K es F0 (withP p H0 H1) F' H' σ) (f0 : F0 p = none) (s0 : Same F0 H0) : Sv K es F0 H0 F' (wo p H') σ ∧ H' p = H1 p := by
  obtain ⟨g, e⟩ := grow_back h0 f0 hp S.g
  refine ⟨⟨s0, g, S.len, fun i en he => ?_, S.df⟩, e⟩
  have o := S.ok i en he
  cases en with
  | no => trivial
  | is R =>
    obtain ⟨m, v, e, r⟩ := o
    exact ⟨m, v, e, m.m _ _ _ _ _ (Same.refl F') r⟩
  | own ds =>
    obtain ⟨q, vs, e1, n0, n, hq, a⟩ := o
    have n0 : (if q = p then H1 p else H0 q) = none := n0
    have hb : q ≠ p := fun z => by rw [if_pos z] at n0; exact hp n0
    rw [if_neg hb] at n0
    exact ⟨q, vs, e1, n0, n, by rw [wo_ne hb]; exact hq, a⟩
theorem _root_.Dl.Sv.f0 (S : Sv K es F0 H0 F (wo p H) σ) : F0 p = none := (S.s0.trans S.g.hh).free wo_self
theorem _root_.Dl.Sv.h0 (S : Sv K es F0 H0 F (wo p H) σ) : H0 p = none := S.g.hh.free wo_self
end
/-! ### judgements -/
def tCanP (K : PySem.W.Frag) (p : Addr) (c : Nat) (es : List Ent) (R : Rel) (c' : Nat) : TE := fun σ H Q => ∃ F0 H0 F, PotAt p c H ∧ Sv K es F0 H0 F (wo p H) σ ∧ ∀ v F' H', PotAt p c' H' → Grow F (wo p H) F' (wo p H') → R F' (wo p H') v → Q v H'
def tCanLP (K : PySem.W.Frag) (p : Addr) (c : Nat) (es : List Ent) (P : List PyData → Prop) (c' : Nat) : TE := fun σ H Q => ∃ F0 H0 F, PotAt p c H ∧ Sv K es F0 H0 F (wo p H) σ ∧ ∀ q vs ds F' H', PotAt p c' H' → Grow F (wo p H) F' (wo p H') → P ds → wo p H q = none → F' q = none → wo p H' q = some (.lst vs) → DpAll K F' vs ds → Q (.ref q) H'
def tCanTP (K : PySem.W.Frag) (p : Addr) (c : Nat) (es : List Ent) (B : Bool → Prop) (c' : Nat) : TT := fun σ H Q => ∃ F0 H0 F, PotAt p c H ∧ Sv K es F0 H0 F (wo p H) σ ∧ ∀ b F' H', PotAt p c' H' → Grow F (wo p H) F' (wo p H') → B b → Q b H'
inductive OutP where
  | nx (P : Nat → List Ent → Prop)
  | rt (R : Rel) (c : Nat)
def OutP.k (K : PySem.W.Frag) (p : Addr) (F0 H0 F1 : Hp) (D : Ends) : OutP → Prop
  | .nx P => ∀ c es σ F H, P c es → Same F1 F → PotAt p c H → Sv K es F0 H0 F (wo p H) σ → D.nx σ H
  | .rt R c => ∀ v F H, PotAt p c H → Grow F0 H0 F (wo p H) → R F (wo p H) v → D.rt v H
def tStP (K : PySem.W.Frag) (p : Addr) (c : Nat) (es : List Ent) (o : OutP) : TS := fun D σ H => ∃ F0 H0 F, PotAt p c H ∧ Sv K es F0 H0 F (wo p H) σ ∧ o.k K p F0 H0 F D
theorem OutP.k.pre {K : PySem.W.Frag} {p : Addr} {F0 H0 F1 F2 : Hp} {D : Ends} {o : OutP} (h : o.k K p F0 H0 F1 D) (s : Same F1 F2) : o.k K p F0 H0 F2 D := by
  cases o with
  | nx P => exact fun c es σ F H p s2 S => h c es σ F H p (s.trans s2) S
  | rt R c => exact h
section
variable {X : Cx} {K : PySem.W.Frag} {es : List Ent} {a b e : Expr} {pos p2 p3 : Pos} {p : Addr} {c c' : Nat}
theorem e_lift {R : Rel} [m : PerR R] (h : PE X e (tCan K es R)) (l : c ≤ c' := by omega) : PE X e (tCanP K p c es R c') :=
  pe_imp h fun σ H Q ⟨F0, H0, F, pa, S, k⟩ => ⟨F0, H0, F, S.up, fun v F' H' g r => k v F' H' ((pa.keep g.hh).mono l) (grow_wo S.fh pa.some g) (m.m _ _ _ _ _ (Same.refl F') r)⟩
theorem e_liftL {P : List PyData → Prop} (h : PE X e (tCanL K es P)) (l : c ≤ c' := by omega) : PE X e (tCanLP K p c es P c') :=
  pe_imp h fun σ H Q ⟨F0, H0, F, pa, S, k⟩ => ⟨F0, H0, F, S.up, fun q vs ds F' H' g pd n n' hq ha => by
    have hb : q ≠ p := fun z => pa.some (z ▸ n)
    exact k q vs ds F' H' ((pa.keep g.hh).mono l) (grow_wo S.fh pa.some g) pd (by rw [wo_ne hb]; exact n) n' (by rw [wo_ne hb]; exact hq) ha⟩
theorem t_lift {d : Bool} (h : PT X e (tCanT K es d)) (l : c ≤ c' := by omega) : PT X e (tCanTP K p c es (· = d) c') :=
  pt_imp h fun σ H Q ⟨F0, H0, F, pa, S, k⟩ => ⟨F0, H0, F, S.up, fun F' H' g => k d F' H' ((pa.keep g.hh).mono l) (grow_wo S.fh pa.some g) rfl⟩
/-- a pure statement -/
theorem s_lift {st : Stmt} {P : List Ent → Prop} (h : PS X st (tSt K es (.nx P))) : PS X st (tStP K p c es (.nx fun c2 e => c2 = c ∧ P e)) :=
  ps_imp h fun D σ H ⟨F0, H0, F, pa, S, k⟩ => ⟨F0, withP p H0 H, F, S.held, fun e σ' F' H' pe sf S' => by
    obtain ⟨S2, eq⟩ := S'.back S.h0 pa.some S.f0 S.s0
    exact k c e σ' F' H' ⟨rfl, pe⟩ sf (pa.same eq.symm) S2⟩
theorem ss_lift {st : List Stmt} {P : List Ent → Prop} (h : PSs X st (tSt K es (.nx P))) : PSs X st (tStP K p c es (.nx fun c2 e => c2 = c ∧ P e)) :=
  pss_imp h fun D σ H ⟨F0, H0, F, pa, S, k⟩ => ⟨F0, withP p H0 H, F, S.held, fun e σ' F' H' pe sf S' => by
    obtain ⟨S2, eq⟩ := S'.back S.h0 pa.some S.f0 S.s0
    exact k c e σ' F' H' ⟨rfl, pe⟩ sf (pa.same eq.symm) S2⟩
theorem ss_liftR {st : List Stmt} {R : Rel} [m : PerR R] (h : PSs X st (tSt K es (.rt R))) (l : c ≤ c' := by omega) : PSs X st (tStP K p c es (.rt R c')) :=
  pss_imp h fun D σ H ⟨F0, H0, F, pa, S, k⟩ => ⟨F0, withP p H0 H, F, S.held, fun v F' H' g r => by
    obtain ⟨g2, eq⟩ := grow_back S.h0 S.f0 pa.some g
    exact k v F' H' ((pa.same eq.symm).mono l) g2 (m.m _ _ _ _ _ (Same.refl F') r)⟩
/-! ### blocks -/
theorem pp_nil : PSs X [] (tStP K p c es (.nx fun c2 e => c2 = c ∧ e = es)) := pss_imp pss_nil fun D σ H ⟨F0, H0, F, pa, S, k⟩ => k c es σ F H ⟨rfl, rfl⟩ (Same.refl F) pa S
theorem pp_cons {st : Stmt} {r : List Stmt} {P : Nat → List Ent → Prop} {o : OutP} (h1 : PS X st (tStP K p c es (.nx P))) (h2 : ∀ c e, P c e → PSs X r (tStP K p c e o)) : PSs X (st :: r) (tStP K p c es o) :=
  pss_imp (pss_cons h1 (pss_hyp (ι := Nat × List Ent) (C := fun q => P q.1 q.2) (t := fun q => tStP K p q.1 q.2 o) fun q hq => h2 q.1 q.2 hq)) fun D σ H ⟨F0, H0, F, pa, S, k⟩ => ⟨F0, H0, F, pa, S, fun c2 es' σ' F' H' pe sf pa' S' => ⟨(c2, es'), pe, F0, H0, F', pa', S', k.pre sf⟩⟩
theorem pp_one {st : Stmt} {o : OutP} (h : PS X st (tStP K p c es o)) : PSs X [st] (tStP K p c es o) := pss_one h
theorem pp_rt {st : Stmt} {r : List Stmt} {R : Rel} (h : PS X st (tStP K p c es (.rt R c'))) : PSs X (st :: r) (tStP K p c es (.rt R c')) :=
  pss_imp (pss_cons h (pss_dead (r := r))) fun D σ H ⟨F0, H0, F, pa, S, k⟩ => ⟨F0, H0, F, pa, S, k⟩
theorem pp_nx {st : List Stmt} {P P' : Nat → List Ent → Prop} (h : PSs X st (tStP K p c es (.nx P))) (w : ∀ c e, P c e → P' c e) : PSs X st (tStP K p c es (.nx P')) :=
  pss_imp h fun D σ H ⟨F0, H0, F, pa, S, k⟩ => ⟨F0, H0, F, pa, S, fun c2 e σ' F' H' pe => k c2 e σ' F' H' (w c2 e pe)⟩
theorem pp_pre {st : List Stmt} {es' : List Ent} {c2 : Nat} {o : OutP} (l : c ≤ c2) (w : WkL es es') (h : PSs X st (tStP K p c2 es' o)) : PSs X st (tStP K p c es o) :=
  pss_imp h fun D σ H ⟨F0, H0, F, pa, S, k⟩ => ⟨F0, H0, F, pa.mono l, S.wk w.wk, k⟩
theorem pp_to {st : List Stmt} {o : OutP} (es' : List Ent) (h : PSs X st (tStP K p c es' o)) (q : es = es' := by rfl) : PSs X st (tStP K p c es o) := q ▸ h
/-! ### statements -/
theorem q_set (i : Nat) {x : Str} {p' : Pos} {R : Rel} [PerR R] (he : PE X e (tCanP K p c es R c')) (hN : X.N.Nodup) (hi : X.N[i]? = some x := by rfl) (hx : Loc X.env.scope x := by first | exact .inl rfl | exact .inr rfl)
    (hs : swapsWith e (some (.Name x p')) pos.line X.env = pure false := by rfl) (hf : X.fn x = true ∨ X.env.scope.names.lookup x = some .local := by first | exact .inl rfl | exact .inr rfl) : PS X (.Assign [.Name x p'] e pos) (tStP K p c es (.nx fun c2 e => c2 = c' ∧ e = es.set i (.is R))) :=
  ps_imp (ps_set hN hi hx he hs hf) fun D σ H ⟨F0, H0, F, pa, S, k⟩ => ⟨F0, H0, F, pa, S, fun v F' H' pa' g r => k c' _ _ F' H' ⟨rfl, rfl⟩ g.ff pa' ((S.grow g).set r)⟩
theorem q_ret {R : Rel} (he : PE X e (tCanP K p c es R c')) : PS X (.Return (some e) pos) (tStP K p c es (.rt R c')) :=
  ps_imp (ps_ret he) fun D σ H ⟨F0, H0, F, pa, S, k⟩ => ⟨F0, H0, F, pa, S, fun v F' H' pa' g r => k v F' H' pa' (S.g.trans g) r⟩
theorem q_app {ap cp ep : Pos} (i : Nat) {x : Str} {p' : Pos} {ds : List PyData} {Pd : PyData → Prop} (hi : es[i]? = some (.own ds)) (h : PE X e (tCanP X.K p c es (ExD X.K Pd) c')) (hz : ds.length < 100000) (hN : X.N[i]? = some x := by rfl)
    (hv : Vis X.env.scope x := by first | exact Or.inl rfl | exact Or.inr (Or.inl rfl) | exact Or.inr (Or.inr rfl)) (hd : (x == ("__debug__" : Str)) = false := by decide) (hcd : (x == ("__classdict__" : Str)) = false := by decide)
    (hbase : attributeBase (.Name x p') "append" X.env (eval (.Name x p') X.env) = eval (.Name x p') X.env := by rfl)
    (hfew : ((backTo cp (starEach (e :: []) X.env)).all (fun x => !x.1) && (backToKw cp (keywordEach [] X.env)).all (fun x => x.1.isSome)
      && decide ((e :: []).length + ([] : List Keyword).length + (if ([] : List Keyword).isEmpty then 0 else 1) < 30)) = true := by rfl)
    (hline : (ap.endLine == cp.line) = true := by rfl) (hs : starEach (e :: []) X.env = (false, eval e X.env) :: starEach [] X.env := by rfl) (hplain : (backTo cp (starEach [] X.env)).any (·.1) = false := by rfl)
    (hsw : swapsWith (.Call (.Attribute (.Name x p') "append" ap) [e] [] cp) none ep.line X.env = pure false := by rfl) :
    PS X (.Expr (.Call (.Attribute (.Name x p') "append" ap) [e] [] cp) ep) (tStP X.K p c es (.nx fun c2 e => c2 = c' ∧ ∃ d, Pd d ∧ e = es.set i (.own (ds ++ [d])))) :=
  ps_imp (ps_expr (pe_bm PySem.F.plainAttrs_list PySem.F.slot_list_append PySem.F.type_list_append mt_append (pe_var hN hv hd hcd) (pa_cons h pa_nil hs) hbase hfew hline hs hplain) hsw) fun D σ H ⟨F0, H0, F, pa, S, k⟩ => by
    obtain ⟨q, vs, e, n0, n, hq, a⟩ := S.ok i _ hi
    obtain ⟨hb, hq⟩ := wo_some hq
    refine ⟨_, e, .inl ⟨rfl, vs, .inl (.inl hq)⟩, F0, H0, F, pa, S, fun v F1 H1 pa1 g1 ⟨d, pd, r1⟩ => ?_⟩
    have S1 := S.grow g1
    have hq1 : wo p H1 q = some (.lst vs) := g1.hh _ _ (by rw [wo_ne hb]; exact hq)
    refine ⟨q, vs, v, rfl, rfl, (wo_some hq1).2, by rw [dpa_len a]; exact Nat.lt_of_lt_of_le hz (by decide), ?_⟩
    have S2 := S1.chg (vs := vs) hi e (dpa_app (dpAll_mono g1.ff _ _ a) (.cons r1 .nil))
    have eh : wo p (upd H1 q (.lst (vs ++ [v]))) = upd (wo p H1) q (.lst (vs ++ [v])) := funext fun b => by
      by_cases h1 : b = q
      · subst h1
        rw [upd_same, wo_ne hb, upd_same]
      · rw [upd_ne h1]
        by_cases h2 : b = p
        · rw [h2, wo_self, wo_self]
        · rw [wo_ne h2, wo_ne h2, upd_ne h1]
    refine k c' _ σ F1 _ ⟨rfl, d, pd, rfl⟩ g1.ff (pa1.same ?_) (by rw [eh]; exact S2)
    rw [upd_ne (Ne.symm hb)]
theorem pps_if {P : Prop} {r : List Stmt} {o : OutP} (h : P → PSs X r (tStP K p c es o)) : PSs X r (fun D σ H => P ∧ tStP K p c es o D σ H) := ⟨fun pins s σ H D I ⟨p, q⟩ => (h p).run pins s σ H D I q⟩
theorem q_if {B : Bool → Prop} {r q : List Stmt} {o : OutP} (hc : PT X e (tCanTP K p c es B c')) (ha : B true → PSs X r (tStP K p c' es o)) (hb : B false → PSs X q (tStP K p c' es o)) : PS X (.If e r q pos) (tStP K p c es o) :=
  ps_imp (ps_if hc (pps_if ha) (pps_if hb)) fun D σ H ⟨F0, H0, F, pa, S, k⟩ => ⟨F0, H0, F, pa, S, fun d F1 H1 pa1 g hB => by
    cases d with
    | true => exact ⟨hB, F0, H0, F1, pa1, S.grow g, k.pre g.ff⟩
    | false => exact ⟨hB, F0, H0, F1, pa1, S.grow g, k.pre g.ff⟩⟩
end
end Sr
/-! the calculus beside a pot: take, of, calls, loops, comprehensions -/
namespace Sr
open PySem PySem.Spec PyProof.Rows L2 Dl Sb Nd
variable {P : Program} {w : World} {mg : Str → Option Value} {base : Heap}
structure FnAt (P : Program) (w : World) (K : PySem.W.Frag) (mg : Str → Option Value) (base : Heap) (k : Nat) (x : Str) (sp : Sp) : Prop where
  ex : ∃ (f : Addr) (fd : FuncData) (ps : List Str), FnOk P w K mg base CX0 k f fd ps sp ∧ mg x = some (.ref f) ∧ PySem.W.keepIn K (.ref f) = true ∧ Binds K fd ps []
theorem f_take {K : PySem.W.Frag} (D : DefAt K mg "_law_take" s_l_take) : FnAt P w K mg base 1 "_law_take" spTake := by
  obtain ⟨f, fd, F, hm⟩ := D
  exact ⟨f, fd, _, ok_take F, hm, F.kp, F.binds fun _ _ _ _ _ _ us hl => match us, hl with | [_, _], _ => rfl⟩
def spOf (K : PySem.W.Frag) : Sp := fun vs H Q _ => ∃ (p l : Addr) (c : Nat) (us : List V), vs = [.ref p, .ref l] ∧ c < 1000000 ∧ PotAt p c H ∧ SqL K (wo p H) l us ∧ 0 < us.length ∧ us.length < 1000000 ∧ ∀ H' v, But p H H' → PotAt p (c + 1) H' → v ∈ us → Q v H'
theorem but_wo {p : Addr} {H H' : Hp} (h : But p H H') : Same (wo p H) (wo p H') := fun b o e => by
  obtain ⟨hb, e⟩ := wo_some e
  rw [wo_ne hb]
  exact h b o hb e
theorem f_of {K : PySem.W.Frag} (B : Bi mg) (D : DefAt K mg "_law_of" s_l_of) (T : FnAt P w K mg base 1 "_law_take" spTake) : FnAt P w K mg base 2 "_law_of" (spOf K) := by
  obtain ⟨f, fd, F, hm⟩ := D
  obtain ⟨ft, fdt, pst, FT, hmt, kt, bt⟩ := T.ex
  refine ⟨f, fd, P_l_of, F.ok S_l_of (fun vs H Q E h => ?_) (fun cdv A outer s H vs Q E hr h => ?_), hm, F.kp, F.binds fun _ _ _ _ _ _ us hl => match us, hl with | [_, _], _ => rfl⟩
  · obtain ⟨p, l, c, us, rfl, _⟩ := h
    rfl
  · obtain ⟨p, l, c, us, rfl, hc, pa, hl, h0, h1, q⟩ := h
    refine ⟨_, pss_one (ps_ret (pe_ix ix_list (pv 1) (pe_call FT hr (by rfl) hmt kt bt .nil pass0 (pa_cons (pv 0) (pa_cons (pe_callB call_len_seq (by rfl) B.len PySem.boot_len (pa_cons (pv 1) pa_nil)) pa_nil))) (fun _ _ => rfl))), ?_⟩
    refine ⟨.ref l, rfl, .ref p, rfl, .ref l, rfl, l, us, rfl, .inl ((wo_sub p H).seq hl), ?_⟩
    refine ⟨p, us.length, c, rfl, ⟨by omega, by omega⟩, hc, pa, fun H' r bu pa' r0 r1 => ?_⟩
    obtain ⟨n, rfl⟩ := Int.eq_ofNat_of_zero_le r0
    have hn : n < us.length := by omega
    exact ⟨l, us, n, us[n], rfl, rfl, (wo_sub p H').seq ((but_wo bu).seq hl), atI_nat (List.getElem?_eq_getElem hn), q H' _ bu pa' (List.getElem_mem hn)⟩
section
variable {X : Cx} {K : PySem.W.Frag} {es : List Ent} {a b e : Expr} {pos p2 p3 : Pos} {p : Addr} {c c' c2 : Nat}
theorem e_wkP {R R' : Rel} (h : PE X e (tCanP K p c es R c')) (w : ∀ F H v, Same F H → R F H v → R' F H v) : PE X e (tCanP K p c es R' c') :=
  pe_imp h fun σ H Q ⟨F0, H0, F, pa, S, k⟩ => ⟨F0, H0, F, pa, S, fun v F' H' pa' g r => k v F' H' pa' g (w _ _ _ g.fh r)⟩
theorem e_wkc {R : Rel} (h : PE X e (tCanP K p c es R c')) (l : c' ≤ c2) : PE X e (tCanP K p c es R c2) :=
  pe_imp h fun σ H Q ⟨F0, H0, F, pa, S, k⟩ => ⟨F0, H0, F, pa, S, fun v F' H' pa' g r => k v F' H' (pa'.mono l) g r⟩
theorem e_isP {d d' : PyData} (h : PE X e (tCanP K p c es (Dat K d) c')) (q : d = d') : PE X e (tCanP K p c es (Dat K d') c') := q ▸ h
/-- lists to be read, beside the pot -/
theorem l_dat {ds : List PyData} (h : PE X e (tCan K es (Dat K (.list ds)))) : PE X e (tCanP K p c es (Lsd K ds) c) := e_wkP (e_lift h) fun F H v s r => by
  obtain ⟨q, vs, e, hs, ha⟩ := dat_lst r
  exact ⟨q, vs, e, s.seq hs, ha⟩
theorem l_new {ds : List PyData} (h : PE X e (tCanL K es (· = ds))) : PE X e (tCanP K p c es (Lsd K ds) c) :=
  pe_imp (e_liftL (p := p) (c := c) (c' := c) h (Nat.le_refl _)) fun σ H Q ⟨F0, H0, F, pa, S, k⟩ => ⟨F0, H0, F, pa, S, fun q vs ds' F' H' pa' g pd n n' hq ha => k _ F' H' pa' g ⟨q, vs, rfl, .inl (.inl hq), pd ▸ ha⟩⟩
theorem l_own (i : Nat) {ds : List PyData} {x : Str} {pos : Pos} (h : es[i]? = some (.own ds) := by rfl) (hN : X.N[i]? = some x := by rfl) (hv : Vis X.env.scope x := by first | exact Or.inl rfl | exact Or.inr (Or.inl rfl) | exact Or.inr (Or.inr rfl)) (hd : (x == ("__debug__" : Str)) = false := by decide)
    (hcd : (x == ("__classdict__" : Str)) = false := by decide) : PE X (.Name x pos) (tCanP K p c es (Lsd K ds) c) :=
  pe_imp (pe_var hN hv hd hcd) fun σ H Q ⟨F0, H0, F, pa, S, k⟩ => by
    obtain ⟨q, vs, e, n0, n, hq, a⟩ := S.ok i _ h
    exact ⟨_, e, k _ F H pa (Grow.refl S.fh) ⟨q, vs, rfl, .inl (.inl hq), a⟩⟩
theorem grow_but {F H F' H' H2 : Hp} (g : Grow F (wo p H) F' (wo p H')) (b : But p H' H2) : Grow F (wo p H) F' (wo p H2) :=
  g.trans ⟨Same.refl F', g.fh.trans (but_wo b), but_wo b, fun _ e _ => e⟩
/-- take(pot, n) -/
theorem e_take {m : Int} (T : FnAt P w K mg base 1 "_law_take" spTake) (hr : Room 1 X.A) (ha : PE X a (tCan K es (Is (.ref p)))) (hb : PE X b (tCan K es (Dat K (.int m)))) (hm : 0 < m ∧ m < 1000000) (hc : c < 1000000)
    (x1 : X.prog = P := by rfl) (x2 : X.w = w := by rfl) (x3 : X.K = K := by rfl) (x4 : X.mg = mg := by rfl) (x5 : X.base = base := by rfl) (hg : Gl X "_law_take" := by rfl)
    (h1 : starEach [a, b] X.env = (false, eval a X.env) :: starEach [b] X.env := by rfl) (h2 : starEach [b] X.env = (false, eval b X.env) :: starEach [] X.env := by rfl) (hpl : (backTo pos (starEach [b] X.env)).any (·.1) = false := by rfl) :
    PE X (.Call (.Name "_law_take" p2) [a, b] [] pos) (tCanP K p c es (ExD K fun d => ∃ r : Nat, d = .int r ∧ (r : Int) < m) (c + 1)) := by
  subst x1; subst x2; subst x3; subst x4; subst x5
  obtain ⟨f, fd, ps, F, hm', hk, hbd⟩ := T.ex
  refine pe_imp (pe_call F hr hg hm' hk hbd .nil pass0 (pa_cons ha (pa_cons hb pa_nil h2) h1) (by decide) h1 hpl) fun σ H Q ⟨F0, H0, F, pa, S, k⟩ => ⟨F0, H0, F, S.up, fun x F1 H1 g1 r1 => ⟨F0, H0, F1, S.up.grow g1, fun y F2 H2 g2 r2 => ?_⟩⟩
  have r1 : x = .ref p := r1
  subst r1
  have g12 := g1.trans g2
  refine ⟨p, m, c, by rw [dat_int r2]; rfl, hm, hc, pa.keep g12.hh, fun H' r bu pa' r0 rm => ?_⟩
  obtain ⟨n, rfl⟩ := Int.eq_ofNat_of_zero_le r0
  exact k _ F2 H' pa' (grow_but (grow_wo S.fh pa.some g12) bu) ⟨_, ⟨n, rfl, rm⟩, .int _⟩
/-- of(pot, list) -/
theorem e_of {ds : List PyData} (O : FnAt P w K mg base 2 "_law_of" (spOf K)) (hr : Room 2 X.A) (ha : PE X a (tCan K es (Is (.ref p)))) (hb : PE X b (tCanP K p c es (Lsd K ds) c)) (h0 : 0 < ds.length) (h9 : ds.length < 1000000) (hc : c < 1000000)
    (x1 : X.prog = P := by rfl) (x2 : X.w = w := by rfl) (x3 : X.K = K := by rfl) (x4 : X.mg = mg := by rfl) (x5 : X.base = base := by rfl) (hg : Gl X "_law_of" := by rfl)
    (h1 : starEach [a, b] X.env = (false, eval a X.env) :: starEach [b] X.env := by rfl) (h2 : starEach [b] X.env = (false, eval b X.env) :: starEach [] X.env := by rfl) (hpl : (backTo pos (starEach [b] X.env)).any (·.1) = false := by rfl) :
    PE X (.Call (.Name "_law_of" p2) [a, b] [] pos) (tCanP K p c es (ExD K fun d => d ∈ ds) (c + 1)) := by
  subst x1; subst x2; subst x3; subst x4; subst x5
  obtain ⟨f, fd, ps, F, hm', hk, hbd⟩ := O.ex
  refine pe_imp (pe_call F hr hg hm' hk hbd .nil pass0 (pa_cons (e_lift (p := p) (c := c) (c' := c) ha (Nat.le_refl _)) (pa_cons hb pa_nil h2) h1) (by decide) h1 hpl) fun σ H Q ⟨F0, H0, F, pa, S, k⟩ => ⟨F0, H0, F, pa, S, fun x F1 H1 pa1 g1 r1 => ⟨F0, H0, F1, pa1, S.grow g1, fun y F2 H2 pa2 g2 ⟨l, us, ey, hl, hd⟩ => ?_⟩⟩
  have r1 : x = .ref p := r1
  subst r1
  subst ey
  have hlen := dpa_len hd
  refine ⟨p, l, c, us, rfl, hc, pa2, hl, by omega, by omega, fun H' v bu pa' hv => ?_⟩
  obtain ⟨i, hi⟩ := List.getElem?_of_mem hv
  obtain ⟨d, hdi, pd⟩ := dpa_at hd hi
  exact k v F2 H' pa' (grow_but (g1.trans g2) bu) ⟨d, List.mem_of_getElem? hdi, pd⟩
/-! ### defs beside the pot -/
def spP {ι : Type} (K : PySem.W.Frag) (cost : Nat) (C : ι → Prop) (Rs : ι → List Rel) (R : ι → Rel) : Sp := fun vs H Q _ => ∃ i p c F vs', vs = .ref p :: vs' ∧ C i ∧ c + cost ≤ 900000 ∧ PotAt p c H ∧ Same F (wo p H) ∧ ValsR (Rs i) F (wo p H) vs' ∧
  ∀ v F' H', PotAt p (c + cost) H' → Grow F (wo p H) F' (wo p H') → R i F' (wo p H') v → Q v H'
end
section
variable {K : PySem.W.Frag} {ι : Type} {C : ι → Prop} {Rs : ι → List Rel} {R : ι → Rel} {x : Str} {st : Stmt} {N ps : List Str} {k cost : Nat}
theorem def_P (D : DefAt K mg x st) (S : FnScope N ps (defScope st)) (hb : ∀ f fd, Fun K x x st f fd → Binds K fd ps []) (hp : ∀ i, PerAll (Rs i)) (hlen : ∀ i, (Rs i).length + 1 = ps.length)
    (body : ∀ (f : Addr) (cdv : Value) (A : Around) (outer : List Env) (s : Shared) (H : Hp) (E : XK), Room k (A.deeper (envOfC x (defScope st) s.heap.objs.size f cdv)) → ∀ i p c, C i → c + cost ≤ 900000 →
      PSs (cxOf CX0 P w K mg base N x (defScope st) f cdv A outer s H E).nox (defBody st) (tStP K p c (entry (Is (.ref p) :: Rs i) N.length) (.rt (R i) (c + cost)))) :
    FnAt P w K mg base (k + 1) x (spP K cost C Rs R) := by
  obtain ⟨f, fd, F, hm⟩ := D
  refine ⟨f, fd, ps, F.ok S (fun vs H Q E h => ?_) (fun cdv A outer s H vs Q E hr h => ?_), hm, F.kp, hb f fd F⟩
  · obtain ⟨i, p, c, F1, vs', rfl, _, _, _, _, hv, _⟩ := h
    rw [List.length_cons, valsR_len hv, hlen i]
  · obtain ⟨i, p, c, F1, vs', rfl, ci, hc, pa, sh, hv, kk⟩ := h
    refine ⟨_, body f cdv A outer s H E hr i p c ci hc, F1, wo p H, F1, pa, sv_entry (Rs := Is (.ref p) :: Rs i) sh ⟨rfl, hv⟩ ?_, fun v F' H' pa' g r => kk v F' H' pa' g r⟩
    intro T hT
    rcases List.mem_cons.mp hT with z | z
    · rw [z]; infer_instance
    · exact (hp i).all T z
variable {X : Cx} {es : List Ent} {a e : Expr} {pos p2 : Pos} {p : Addr} {c : Nat}
theorem e_callP {l : List Expr} (F : FnAt P w K mg base k x (spP K cost C Rs R)) (i : ι) (hi : C i) (hr : Room k X.A) (ha : PA X (e :: l) (tCanA K es (Is (.ref p) :: Rs i))) (hc : c + cost ≤ 900000) (pr : ∀ T ∈ Rs i, PerR T)
    (x1 : X.prog = P := by rfl) (x2 : X.w = w := by rfl) (x3 : X.K = K := by rfl) (x4 : X.mg = mg := by rfl) (x5 : X.base = base := by rfl) (hg : Gl X x := by rfl) (hdb : (x == ("__debug__" : Str)) = false := by decide)
    (he : starEach (e :: l) X.env = (false, eval e X.env) :: starEach l X.env := by rfl) (hpl : (backTo pos (starEach l X.env)).any (·.1) = false := by rfl) : PE X (.Call (.Name x p2) (e :: l) [] pos) (tCanP K p c es (R i) (c + cost)) := by
  subst x1; subst x2; subst x3; subst x4; subst x5
  obtain ⟨f, fd, ps, F, hm, hk, hb⟩ := F.ex
  refine pe_imp (pe_call F hr hg hm hk hb .nil pass0 ha hdb he hpl) fun σ H Q ⟨F0, H0, F, pa, S, kk⟩ => ⟨F0, H0, F, S.up, fun vs F1 H1 g1 r1 => ?_⟩
  show spP X.K cost C Rs R (vs ++ []) H1 Q E0
  rw [List.append_nil]
  have per : ∀ {Ts : List Rel} {us : List V}, (∀ T ∈ Ts, PerR T) → ValsR Ts F1 H1 us → ValsR Ts F1 (wo p H1) us := by
    intro Ts
    induction Ts with
    | nil => intro us _ h; cases us with
      | nil => trivial
      | cons _ _ => exact h
    | cons T Ts ih => intro us hT h; cases us with
      | nil => exact h
      | cons u us => exact ⟨(hT T List.mem_cons_self).m _ _ _ _ _ (Same.refl F1) h.1, ih (fun T' h' => hT T' (List.mem_cons_of_mem _ h')) h.2⟩
  match vs, r1 with
  | v :: vs', ⟨ev, r2⟩ =>
    have ev : v = .ref p := ev
    subst ev
    have gw := grow_wo S.fh pa.some g1
    exact ⟨i, p, c, F1, vs', rfl, hi, hc, pa.keep g1.hh, gw.fh, per pr r2, fun v F' H' pa' g r => kk v F' H' pa' (gw.trans g) r⟩
end
end Sr
/-! the calculus beside a pot: comprehensions with draws -/
namespace Sr
open PySem PySem.Spec PyProof.Rows L2 Dl Sb Nd
/-- what a comprehension with a drawn condition and drawn elements makes of xs -/
inductive LcR {ι : Type} (B : ι → Bool → Prop) (Qf : ι → PyData → Prop) : List ι → List PyData → Prop where
  | nil : LcR B Qf [] []
  | skip {x xs ds} : LcR B Qf xs ds → B x false → LcR B Qf (xs ++ [x]) ds
  | keep {x xs ds d} : LcR B Qf xs ds → B x true → Qf x d → LcR B Qf (xs ++ [x]) (ds ++ [d])
theorem LcR.mem {ι : Type} {B : ι → Bool → Prop} {Qf : ι → PyData → Prop} {xs : List ι} {ds : List PyData} (h : LcR B Qf xs ds) : ∀ d ∈ ds, ∃ x ∈ xs, Qf x d := by
  induction h with
  | nil => intro d h; cases h
  | skip h b ih => exact fun d hd => let ⟨x, hx, q⟩ := ih d hd; ⟨x, List.mem_append_left _ hx, q⟩
  | keep h b q ih =>
    intro d hd
    rcases List.mem_append.mp hd with z | z
    · obtain ⟨x, hx, q⟩ := ih d z
      exact ⟨x, List.mem_append_left _ hx, q⟩
    · rw [List.mem_singleton.mp z]
      exact ⟨_, List.mem_append_right _ (List.mem_singleton.mpr rfl), q⟩
theorem LcR.len {ι : Type} {B : ι → Bool → Prop} {Qf : ι → PyData → Prop} {xs : List ι} {ds : List PyData} (h : LcR B Qf xs ds) : ds.length ≤ xs.length := by
  induction h with
  | nil => exact Nat.le_refl _
  | skip h b ih => simp; omega
  | keep h b q ih => simp; omega
theorem LcR.all {ι : Type} {Qf : ι → PyData → Prop} {xs : List ι} {ds : List PyData} (h : LcR (fun _ b => b = true) Qf xs ds) : ds.length = xs.length := by
  induction h with
  | nil => rfl
  | skip h b ih => cases b
  | keep h b q ih => simp [ih]
theorem grow_wo_newH {p D : Addr} {F H : Hp} {o : HO} (s : Same F (wo p H)) (n : H D = none) (hp : H p ≠ none) : Grow F (wo p H) F (wo p (upd H D o)) := by
  refine ⟨Same.refl F, fun b u e => ?_, fun b u e => ?_, fun b e _ => e⟩
  · obtain ⟨hb, e⟩ := wo_some (s b u e)
    rw [wo_ne hb, upd_ne (ne_of_none e n)]
    exact e
  · obtain ⟨hb, e⟩ := wo_some e
    rw [wo_ne hb, upd_ne (ne_of_none e n)]
    exact e
theorem grow_wo_mut {p D : Addr} {F1 H1 F H : Hp} {o : HO} (g : Grow F1 (wo p H1) F (wo p H)) (n : H1 D = none) (n' : F D = none) (hp : H1 p ≠ none) : Grow F1 (wo p H1) F (wo p (upd H D o)) := by
  have hD : D ≠ p := fun z => hp (z ▸ n)
  have e : wo p (upd H D o) = upd (wo p H) D o := funext fun b => by
    by_cases h1 : b = D
    · subst h1
      rw [upd_same, wo_ne hD, upd_same]
    · rw [upd_ne h1]
      by_cases h2 : b = p
      · rw [h2, wo_self, wo_self]
      · rw [wo_ne h2, wo_ne h2, upd_ne h1]
  rw [e]
  exact g.mut (by rw [wo_ne hD]; exact n) n'
theorem PotAt.upd {p D : Addr} {c : Nat} {H : Hp} {o : HO} (h : PotAt p c H) (n : D ≠ p) : PotAt p c (upd H D o) := h.same (by rw [upd_ne (Ne.symm n)])
section
variable {X : Cx} {K : PySem.W.Frag} {es : List Ent} {pos p2 p3 : Pos} {p : Addr} {c : Nat}
variable {ι : Type} {Pxs : List ι → Prop} {enc : ι → PyData} {B : ι → Bool → Prop} {Qf : ι → PyData → Prop} {elt tg iter : Expr} {ifs : List Expr} {scope : Scope} {own : List (Str × Nat)} {g : TG} {φ : ι → List Ent → List Ent} {js : List Nat} {n ct ce : Nat}
theorem lc_canP (hz : ∀ xs, Pxs xs → xs.length ≤ n) (hn : n ≤ 100000) (ht : ∀ xs, Pxs xs → ∀ x ∈ xs, Tg K g (enc x) (φ x) js) (hjs : ∀ j ∈ js, j ∈ own.map (·.2)) (σ : L2.St) (H : Hp) (Q : VK) (q : tCanLP K p c es (fun ds => ∃ xs, Pxs xs ∧ LcR B Qf xs ds) (c + n * (ct + ce)) σ H Q) :
    tLc (tCanIG K es enc Pxs) g (fun σ H Q => ∃ y : ι × Nat, ((∃ xs, Pxs xs ∧ y.1 ∈ xs) ∧ y.2 + (ct + ce) ≤ c + n * (ct + ce)) ∧ tCanTP K p y.2 (φ y.1 (wipeE es (own.map (·.2)))) (B y.1) (y.2 + ct) σ H Q)
      (fun σ H Q => ∃ y : ι × Nat, ((∃ xs, Pxs xs ∧ y.1 ∈ xs) ∧ y.2 + ce ≤ c + n * (ct + ce)) ∧ tCanP K p y.2 (φ y.1 (wipeE es (own.map (·.2)))) (ExD K (Qf y.1)) (y.2 + ce) σ H Q) (own.map (·.2)) σ H Q := by
  obtain ⟨F0, H0, F, pa, S, k⟩ := q
  refine ⟨F0, H0, F, S.up, fun J F1 H1 xs g1 px w D hD => ?_⟩
  have gw1 := grow_wo S.fh pa.some g1
  have pa1 := pa.keep g1.hh
  have hDp : D ≠ p := fun z => pa1.some (z ▸ hD)
  have hlen : (xs.map enc).length = xs.length := List.length_map ..
  unfold WalkD at w
  rw [hlen] at w
  refine lc_it (g := g) (tt := fun σ H Q => ∃ y : ι × Nat, ((∃ xs, Pxs xs ∧ y.1 ∈ xs) ∧ y.2 + (ct + ce) ≤ c + n * (ct + ce)) ∧ tCanTP K p y.2 (φ y.1 (wipeE es (own.map (·.2)))) (B y.1) (y.2 + ct) σ H Q)
    (te := fun σ H Q => ∃ y : ι × Nat, ((∃ xs, Pxs xs ∧ y.1 ∈ xs) ∧ y.2 + ce ≤ c + n * (ct + ce)) ∧ tCanP K p y.2 (φ y.1 (wipeE es (own.map (·.2)))) (ExD K (Qf y.1)) (y.2 + ce) σ H Q) (vs := own.map (·.2)) (σ := σ) (H1 := H1) (D := D) (Qd := Q (.ref D)) w
    (fun i H' => ∃ F' vs ds, PotAt p (c + i * (ct + ce)) H' ∧ Grow F1 (wo p H1) F' (wo p H') ∧ F' D = none ∧ H' D = some (.lst vs) ∧ vs.length ≤ i ∧ LcR B Qf (xs.take i) ds ∧ DpAll K F' vs ds) ?_ ?_ ?_ ?_
  · exact ⟨F1, [], [], by rw [Nat.zero_mul]; exact pa1.upd hDp, grow_wo_newH gw1.fh hD pa1.some, g1.fh.free hD, upd_same, Nat.le_refl _, .nil, .nil⟩
  · rintro i H' _ ⟨F', vs, ds, _, g2, _⟩
    exact g2.ff.trans (g2.fh.trans (wo_sub p H'))
  · rintro i x H2 H3 hi ⟨F2, vs, ds, pa2, g2, n2, hvs, hl, ar, a2⟩ y
    obtain ⟨F3, g3', d, hd, pd⟩ := y F2 g2.ff (g2.fh.trans (wo_sub p H2))
    have g3 := grow_wo g2.fh pa2.some g3'
    have pa3 := pa2.keep g3'.hh
    have hx : xs[i]? = some xs[i] := List.getElem?_eq_getElem hi
    rw [List.getElem?_map, hx] at hd
    cases hd
    have hxm : xs[i] ∈ xs := List.getElem_mem hi
    have g13 := g2.trans g3
    have n3 : F3 D = none := g3'.nw D n2 (by rw [hvs]; exact fun z => by cases z)
    have h3 : H3 D = some (.lst vs) := g3'.hh _ _ hvs
    have S3 : Sv K (wipeE es (own.map (·.2))) F0 H0 F3 (wo p H3) (L2.wipe σ (own.map (·.2))) := (S.grow (gw1.trans g13)).wipe _
    have et : xs.take (i + 1) = xs.take i ++ [xs[i]] := by rw [List.take_add_one, hx]; rfl
    have hin : i < n := Nat.lt_of_lt_of_le hi (hz xs px)
    have hm1 : (i + 1) * (ct + ce) ≤ n * (ct + ce) := Nat.mul_le_mul_right _ hin
    have hm2 : (i + 1) * (ct + ce) = i * (ct + ce) + (ct + ce) := Nat.succ_mul i _
    refine (ht xs px _ hxm).run _ F0 (withP p H0 H3) F3 H3 _ x _ S3.held pd fun σ' S' hl' hσ' => ?_
    obtain ⟨S', _⟩ := S'.back S3.h0 pa3.some S3.f0 S3.s0
    refine ⟨?_, (xs[i], c + i * (ct + ce)), ⟨⟨xs, px, hxm⟩, by show c + i * (ct + ce) + (ct + ce) ≤ _; omega⟩, F0, H0, F3, pa3, S', fun b F4 H4 pa4 g4 hb => ?_⟩
    · rw [wipe_eq (σ := σ') (τ := L2.wipe σ (own.map (·.2))) _ hl' fun j hj => hσ' j fun z => hj (hjs j z), wipe_idem]
    · have h3w : wo p H3 D = some (.lst vs) := by rw [wo_ne hDp]; exact h3
      have n4 : F4 D = none := g4.nw D n3 (by rw [h3w]; exact fun z => by cases z)
      have h4w : wo p H4 D = some (.lst vs) := g4.hh _ _ h3w
      have h4 : H4 D = some (.lst vs) := (wo_some h4w).2
      cases b with
      | false =>
        simp only [Bool.false_eq_true, if_false]
        refine ⟨F4, vs, ds, pa4.mono (by show c + i * (ct + ce) + ct ≤ _; omega), g13.trans g4, n4, h4, Nat.le_succ_of_le hl, ?_, dpAll_mono (g3.ff.trans g4.ff) _ _ a2⟩
        rw [et]
        exact .skip ar hb
      | true =>
        simp only [if_true]
        refine ⟨(xs[i], c + i * (ct + ce) + ct), ⟨⟨xs, px, hxm⟩, by show c + i * (ct + ce) + ct + ce ≤ _; omega⟩, F0, H0, F4, pa4, S'.grow g4, fun v F5 H5 pa5 g5 ⟨d5, q5, r5⟩ => ?_⟩
        have n5 : F5 D = none := g5.nw D n4 (by rw [h4w]; exact fun z => by cases z)
        have h5w : wo p H5 D = some (.lst vs) := g5.hh _ _ h4w
        have h5 : H5 D = some (.lst vs) := (wo_some h5w).2
        have g15 := (g13.trans g4).trans g5
        refine ⟨vs, h5, Nat.lt_of_le_of_lt (Nat.le_trans hl (Nat.le_trans (Nat.le_of_lt hin) hn)) (by decide), F5, vs ++ [v], ds ++ [d5], PotAt.mono (PotAt.upd pa5 hDp) (by show c + i * (ct + ce) + ct + ce ≤ _; omega), grow_wo_mut g15 hD n5 pa1.some, n5, upd_same, by rw [List.length_append]; simp; exact hl, ?_, ?_⟩
        · rw [et]
          exact .keep ar hb q5
        · exact dpa_app (dpAll_mono ((g3.ff.trans g4.ff).trans g5.ff) _ _ a2) (.cons r5 .nil)
  · rintro H' ⟨F', vs, ds, pa', g2, n2, hvs, _, ar, a2⟩
    rw [List.take_length] at ar
    refine k D vs ds F' H' (pa'.mono ?_) (gw1.trans g2) ⟨xs, px, ar⟩ ?_ n2 ?_ a2
    · exact Nat.add_le_add_left (Nat.mul_le_mul_right _ (hz xs px)) c
    · rw [wo_ne hDp]
      exact g1.hh.free hD
    · rw [wo_ne hDp]
      exact hvs
end
end Sr
/-! the calculus beside a pot: comprehensions, loops, tests with draws -/
namespace Sr
open PySem PySem.Spec PyProof.Rows L2 Dl Sb Nd
section
variable {X : Cx} {K : PySem.W.Frag} {es : List Ent} {a b e : Expr} {pos p2 p3 : Pos} {p : Addr} {c c' c2 : Nat}
section
variable {ι : Type} {Pxs : List ι → Prop} {enc : ι → PyData} {B : ι → Bool → Prop} {Qf : ι → PyData → Prop} {elt tg iter : Expr} {ifs : List Expr} {scope : Scope} {own : List (Str × Nat)} {g : TG} {φ : ι → List Ent → List Ent} {js : List Nat} {n ct ce : Nat}
theorem e_lcP (hc : X.calm = true) (hN : X.N.Nodup) (hi : PI X tg iter (tCanIG X.K es enc Pxs)) (ok : BlkOk X.N X.env.scope scope own)
    (hg : ∀ (s : Shared) (H : Hp) (C : Addr) (cl : List (Str × Addr)) (fp : List Addr), PG (X.blk s H scope (compEnvC scope cl C X.env) fp) tg g) (ht : ∀ xs, Pxs xs → ∀ x ∈ xs, Tg X.K g (enc x) (φ x) js) (hjs : ∀ j ∈ js, j ∈ own.map (·.2))
    (hcn : ∀ xs, Pxs xs → ∀ x ∈ xs, ∀ c2, c2 + (ct + ce) ≤ c + n * (ct + ce) → ∀ (s : Shared) (H : Hp) (C : Addr) (cl : List (Str × Addr)) (fp : List Addr), PTs (X.blk s H scope (compEnvC scope cl C X.env) fp) ifs (tCanTP X.K p c2 (φ x (wipeE es (own.map (·.2)))) (B x) (c2 + ct)))
    (he : ∀ xs, Pxs xs → ∀ x ∈ xs, ∀ c2, c2 + ce ≤ c + n * (ct + ce) → ∀ (s : Shared) (H : Hp) (C : Addr) (cl : List (Str × Addr)) (fp : List Addr), PE (X.blk s H scope (compEnvC scope cl C X.env) fp) elt (tCanP X.K p c2 (φ x (wipeE es (own.map (·.2)))) (ExD X.K (Qf x)) (c2 + ce)))
    (hz : ∀ xs, Pxs xs → xs.length ≤ n) (hn : n ≤ 100000) (hs : ∀ x, foldedSetIterable iter X.env x = pure x := by intro _; rfl) :
    PE X (.ListComp elt [⟨tg, iter, ifs, 0⟩] scope pos) (tCanLP X.K p c es (fun ds => ∃ xs, Pxs xs ∧ LcR B Qf xs ds) (c + n * (ct + ce))) :=
  pe_imp (pe_lc hc hN hi ok hg (fun s H C cl fp => ⟨fun pins s' σ H' Q I ⟨y, ⟨⟨xs, px, hx⟩, hy⟩, q⟩ => (hcn xs px y.1 hx y.2 hy s H C cl fp).run pins s' σ H' Q I q⟩)
    (fun s H C cl fp => ⟨fun pins s' σ H' Q I ⟨y, ⟨⟨xs, px, hx⟩, hy⟩, q⟩ => (he xs px y.1 hx y.2 hy s H C cl fp).run pins s' σ H' Q I q⟩) hs) (lc_canP hz hn ht hjs)
theorem setOwnP {i : Nat} {ds : List PyData} {q : Addr} {vs : List V} {F0 H0 F H F' H' : Hp} {σ : L2.St} (S : Sv K es F0 H0 F (wo p H) σ) (g : Grow F (wo p H) F' (wo p H')) (n : wo p H q = none) (n' : F' q = none) (hq : wo p H' q = some (.lst vs)) (a : DpAll K F' vs ds) :
    Sv K (es.set i (.own ds)) F0 H0 F' (wo p H') (σ.set i (some (.ref q))) := S.setOwn n g S n' hq a
/-- name = [.. drawn ..] on one line -/
theorem q_lc (i : Nat) {y : Str} {py spos : Pos} (hc : X.calm = true) (hN : X.N.Nodup) (hi : PI X tg iter (tCanIG X.K es enc Pxs)) (ok : BlkOk X.N X.env.scope scope own)
    (hg : ∀ (s : Shared) (H : Hp) (C : Addr) (cl : List (Str × Addr)) (fp : List Addr), PG (X.blk s H scope (compEnvC scope cl C X.env) fp) tg g) (ht : ∀ xs, Pxs xs → ∀ x ∈ xs, Tg X.K g (enc x) (φ x) js) (hjs : ∀ j ∈ js, j ∈ own.map (·.2))
    (hcn : ∀ xs, Pxs xs → ∀ x ∈ xs, ∀ c2, c2 + (ct + ce) ≤ c + n * (ct + ce) → ∀ (s : Shared) (H : Hp) (C : Addr) (cl : List (Str × Addr)) (fp : List Addr), PTs (X.blk s H scope (compEnvC scope cl C X.env) fp) ifs (tCanTP X.K p c2 (φ x (wipeE es (own.map (·.2)))) (B x) (c2 + ct)))
    (he : ∀ xs, Pxs xs → ∀ x ∈ xs, ∀ c2, c2 + ce ≤ c + n * (ct + ce) → ∀ (s : Shared) (H : Hp) (C : Addr) (cl : List (Str × Addr)) (fp : List Addr), PE (X.blk s H scope (compEnvC scope cl C X.env) fp) elt (tCanP X.K p c2 (φ x (wipeE es (own.map (·.2)))) (ExD X.K (Qf x)) (c2 + ce)))
    (hz : ∀ xs, Pxs xs → xs.length ≤ n) (hn : n ≤ 100000) (hy : X.N[i]? = some y := by rfl) (hyl : X.env.scope.names.lookup y = some .local := by rfl) (hsw : swapsWith (.ListComp elt [⟨tg, iter, ifs, 0⟩] scope pos) (some (.Name y py)) spos.line X.env = pure true := by rfl) (hs : ∀ x, foldedSetIterable iter X.env x = pure x := by intro _; rfl) :
    PS X (.Assign [.Name y py] (.ListComp elt [⟨tg, iter, ifs, 0⟩] scope pos) spos) (tStP X.K p c es (.nx fun c2 e => c2 = c + n * (ct + ce) ∧ ∃ ds, (∃ xs, Pxs xs ∧ LcR B Qf xs ds) ∧ e = es.set i (.own ds))) :=
  ps_imp (ps_setLc hc hN hy hyl hsw hi ok hg (fun s H C cl fp => ⟨fun pins s' σ H' Q I ⟨y, ⟨⟨xs, px, hx⟩, hy⟩, q⟩ => (hcn xs px y.1 hx y.2 hy s H C cl fp).run pins s' σ H' Q I q⟩)
    (fun s H C cl fp => ⟨fun pins s' σ H' Q I ⟨y, ⟨⟨xs, px, hx⟩, hy⟩, q⟩ => (he xs px y.1 hx y.2 hy s H C cl fp).run pins s' σ H' Q I q⟩) hs) fun D σ H ⟨F0, H0, F, pa, S, k⟩ =>
      lc_canP hz hn ht hjs σ H _ ⟨F0, H0, F, pa, S, fun q vs ds' F' H' pa' gr pd n n' hp a => k _ _ _ F' H' ⟨rfl, ds', pd, rfl⟩ gr.ff pa' (setOwnP S gr n n' hp a)⟩
end
/-- a new list gets a name -/
theorem q_setL (i : Nat) {x : Str} {p' : Pos} {P : List PyData → Prop} (he : PE X e (tCanLP K p c es P c')) (hN : X.N.Nodup) (hi : X.N[i]? = some x := by rfl) (hx : Loc X.env.scope x := by first | exact .inl rfl | exact .inr rfl)
    (hs : swapsWith e (some (.Name x p')) pos.line X.env = pure false := by rfl) (hf : X.fn x = true ∨ X.env.scope.names.lookup x = some .local := by first | exact .inl rfl | exact .inr rfl) : PS X (.Assign [.Name x p'] e pos) (tStP K p c es (.nx fun c2 e => c2 = c' ∧ ∃ ds, P ds ∧ e = es.set i (.own ds))) :=
  ps_imp (ps_set hN hi hx he hs hf) fun D σ H ⟨F0, H0, F, pa, S, k⟩ => ⟨F0, H0, F, pa, S, fun q vs ds F' H' pa' g pd n n' hp a => k _ _ _ F' H' ⟨rfl, ds, pd, rfl⟩ g.ff pa' (setOwnP S g n n' hp a)⟩
theorem q_setE (i : Nat) {x : Str} {p' : Pos} {P : PyData → Prop} (he : PE X e (tCanP K p c es (ExD K P) c')) (hN : X.N.Nodup) (hi : X.N[i]? = some x := by rfl) (hx : Loc X.env.scope x := by first | exact .inl rfl | exact .inr rfl)
    (hs : swapsWith e (some (.Name x p')) pos.line X.env = pure false := by rfl) (hf : X.fn x = true ∨ X.env.scope.names.lookup x = some .local := by first | exact .inl rfl | exact .inr rfl) : PS X (.Assign [.Name x p'] e pos) (tStP K p c es (.nx fun c2 e => c2 = c' ∧ ∃ d, P d ∧ e = es.set i (.is (Dat K d)))) :=
  ps_imp (ps_set hN hi hx he hs hf) fun D σ H ⟨F0, H0, F, pa, S, k⟩ => ⟨F0, H0, F, pa, S, fun v F' H' pa' g ⟨d, pd, r⟩ => k _ _ _ F' H' ⟨rfl, d, pd, rfl⟩ g.ff pa' ((S.grow g).set (R := Dat K d) r)⟩
/-! ### operators: something drawn beside something plain -/
theorem can2P {r : R2} {Ra Rb R : Rel} [MonoR Ra] (h : ∀ x y F H (Q : VK), Same F H → Ra F H x → Rb F H y → (∀ v F' H', Grow F H F' H' → R F' H' v → Q v H') → r x y H Q) [mRa : PerR Ra] [mRb : PerR Rb] [mR : PerR R] (σ : L2.St) (H : Hp) (Q : VK) (q : tCanP K p c es R c2 σ H Q) : tOp r (tCanP K p c es Ra c') (tCanP K p c' es Rb c2) σ H Q := by
  obtain ⟨F0, H0, F, pa, S, k⟩ := q
  refine ⟨F0, H0, F, pa, S, fun x F1 H1 pa1 g1 r1 => ⟨F0, H0, F1, pa1, S.grow g1, fun y F2 H2 pa2 g2 r2 => ?_⟩⟩
  have up := wo_sub p H2
  have r1' : Ra F2 H2 x := mRa.m _ _ _ _ _ (Same.refl _) (MonoR.m _ _ _ _ _ g2 r1)
  have r2' : Rb F2 H2 y := mRb.m _ _ _ _ _ (Same.refl _) r2
  refine h x y F2 H2 Q (g2.fh.trans up) r1' r2' fun v F' H' g r => k v F' H' (pa2.keep g.hh) ((g1.trans g2).trans (grow_wo g2.fh pa2.some g)) (mR.m _ _ _ _ _ (Same.refl _) r)
theorem t_ofP {B : Bool → Prop} {t : TE} (h : PT X e (tTest t)) (k : ∀ σ H Q, tCanP K p c es (ExD K fun d => ∃ b, d = .bool b ∧ B b) c' σ H Q → t σ H Q) : PT X e (tCanTP K p c es B c') :=
  pt_imp h fun σ H Q ⟨F0, H0, F, pa, S, q⟩ => k _ _ _ ⟨F0, H0, F, pa, S, fun v F' H' pa' g ⟨d, ⟨b, ed, hb⟩, r⟩ => by
    subst ed
    exact ⟨b, dat_bl (H := H') r, q b F' H' pa' g hb⟩⟩
def IsInt : PyData → Prop := fun d => ∃ n : Int, d = .int n
theorem e_anInt {P : PyData → Prop} (h : PE X e (tCanP K p c es (ExD K P) c')) (w : ∀ d, P d → IsInt d) : PE X e (tCanP K p c es (ExD K IsInt) c') := e_wkP h fun F H v _ ⟨d, pd, r⟩ => ⟨d, w d pd, r⟩
/-- drawn == n, as a value -/
theorem e_eqP {n : Int} (hu : X.A.units + 64 < cLine) (ha : PE X a (tCanP X.K p c es (ExD X.K IsInt) c')) (hb : PE X b (tCan X.K es (Dat X.K (.int n)))) (hm : behindInMarks .Eq b = false) :
    PE X (.Compare a [.Eq] [b] pos) (tCanP X.K p c es (ExD X.K fun d => ∃ b : Bool, d = .bool b ∧ True) c') :=
  pe_imp (pe_cmpR (op_eqD hu) ha (e_lift (c' := c') hb (Nat.le_refl _)) hm) (can2P fun x y F H Q s ⟨d, ⟨m, ed⟩, hx⟩ hy k => ⟨d, .int n, dp_mono s _ _ hx, dp_mono s _ _ hy, by rw [ed]; rfl, rfl, k _ F H (Grow.refl s) ⟨_, ⟨_, rfl, trivial⟩, .bl _⟩⟩)
theorem t_eqP {n : Int} (hu : X.A.units + 64 < cLine) (ha : PE X a (tCanP X.K p c es (ExD X.K IsInt) c')) (hb : PE X b (tCan X.K es (Dat X.K (.int n)))) (hm : behindInMarks .Eq b = false) :
    PT X (.Compare a [.Eq] [b] pos) (tCanTP X.K p c es (fun _ => True) c') :=
  t_ofP (pt_cmpR (op_eqD hu) ha (e_lift (c' := c') hb (Nat.le_refl _)) hm) (can2P fun x y F H Q s ⟨d, ⟨m, ed⟩, hx⟩ hy k => ⟨d, .int n, dp_mono s _ _ hx, dp_mono s _ _ hy, by rw [ed]; rfl, rfl, k _ F H (Grow.refl s) ⟨_, ⟨_, rfl, trivial⟩, .bl _⟩⟩)
theorem t_gtP {n : Int} (ha : PE X a (tCanP X.K p c es (ExD X.K IsInt) c')) (hb : PE X b (tCan X.K es (Dat X.K (.int n)))) (hm : behindInMarks .Gt b = false) :
    PT X (.Compare a [.Gt] [b] pos) (tCanTP X.K p c es (fun _ => True) c') :=
  t_ofP (pt_cmpR op_gt ha (e_lift (c' := c') hb (Nat.le_refl _)) hm) (can2P fun x y F H Q s ⟨d, ⟨m, ed⟩, hx⟩ hy k => by
    subst ed
    exact ⟨m, n, dat_int (H := H) hx, dat_int hy, k _ F H (Grow.refl s) ⟨_, ⟨_, rfl, trivial⟩, .bl _⟩⟩)
end
end Sr
/-! the calculus beside a pot: loops -/
namespace Sr
open PySem PySem.Spec PyProof.Rows L2 Dl Sb Nd
/-- some items walked, drawn -/
def tCanIP (K : PySem.W.Frag) (p : Addr) (c : Nat) (es : List Ent) {ι : Type} (enc : ι → PyData) (Pxs : List ι → Prop) (c' : Nat) : TI := fun σ H R => ∃ F0 H0 F, PotAt p c H ∧ Sv K es F0 H0 F (wo p H) σ ∧ ∀ J F1 H1 xs, PotAt p c' H1 → Grow F (wo p H) F1 (wo p H1) → Pxs xs → WalkD K J F1 (xs.map enc) → R J H1
section
variable {X : Cx} {K : PySem.W.Frag} {es : List Ent} {a b e : Expr} {pos p2 p3 : Pos} {p : Addr} {c c' c2 : Nat}
variable {ι : Type} {Pxs : List ι → Prop} {enc : ι → PyData} {tg iter : Expr} {body : List Stmt} {g : TG} {φ : ι → List Ent → List Ent} {js : List Nat} {n k : Nat}
theorem i_lift (h : PI X tg iter (tCanIG K es enc Pxs)) (l : c ≤ c' := by omega) : PI X tg iter (tCanIP K p c es enc Pxs c') :=
  pi_imp h fun σ H R ⟨F0, H0, F, pa, S, k⟩ => ⟨F0, H0, F, S.up, fun J F1 H1 xs g px w => k J F1 H1 xs ((pa.keep g.hh).mono l) (grow_wo S.fh pa.some g) px w⟩
theorem q_for (I : List ι → Nat → List Ent → Prop) (hc : X.calm = true) (hi : PI X tg iter (tCanIP X.K p c es enc Pxs c')) (hg : PG X tg g) (ht : ∀ xs, Pxs xs → ∀ x ∈ xs, Tg X.K g (enc x) (φ x) js) (h0 : ∀ xs, Pxs xs → I xs 0 es)
    (hb : ∀ xs, Pxs xs → ∀ i x e, xs[i]? = some x → I xs i e → PSs X body (tStP X.K p (c' + i * k) (φ x e) (.nx fun c2 e' => c2 ≤ c' + (i + 1) * k ∧ I xs (i + 1) e'))) (hz : ∀ xs, Pxs xs → xs.length ≤ n)
    (hp : PassesOwn (model X.prog X.w) X.A X.env X.xe) (hs : ∀ x, foldedSetIterable iter X.env x = pure x := by intro _; rfl) :
    PS X (.For tg iter body [] pos) (tStP X.K p c es (.nx fun c2 e => c2 = c' + n * k ∧ ∃ xs, Pxs xs ∧ I xs xs.length e)) :=
  ps_imp (ps_for hp hc hi hg (pss_hyp (ι := List ι × Nat × ι × List Ent) (C := fun q => Pxs q.1 ∧ q.1[q.2.1]? = some q.2.2.1 ∧ I q.1 q.2.1 q.2.2.2) (t := fun q => tStP X.K p (c' + q.2.1 * k) (φ q.2.2.1 q.2.2.2) (.nx fun c2 e' => c2 ≤ c' + (q.2.1 + 1) * k ∧ I q.1 (q.2.1 + 1) e')) fun q h => hb q.1 h.1 q.2.1 q.2.2.1 q.2.2.2 h.2.1 h.2.2) hs) fun D σ H ⟨F0, H0, F, pa, S, kk⟩ => by
    refine ⟨F0, H0, F, pa, S, fun J F1 H1 xs pa1 g1 px w => ?_⟩
    have hlen : (xs.map enc).length = xs.length := List.length_map ..
    unfold WalkD at w
    rw [hlen] at w
    refine for_it (g := g) (tb := fun D σ H => ∃ q : List ι × Nat × ι × List Ent, (Pxs q.1 ∧ q.1[q.2.1]? = some q.2.2.1 ∧ I q.1 q.2.1 q.2.2.2) ∧ tStP X.K p (c' + q.2.1 * k) (φ q.2.2.1 q.2.2.2) (.nx fun c2 e' => c2 ≤ c' + (q.2.1 + 1) * k ∧ I q.1 (q.2.1 + 1) e') D σ H) (D := D) (σ := σ) (H := H1) w
      (fun i σ H => ∃ F' e, Same F1 F' ∧ PotAt p (c' + i * k) H ∧ I xs i e ∧ Sv X.K e F0 H0 F' (wo p H) σ) ⟨F1, es, Same.refl _, by rw [Nat.zero_mul]; exact pa1, h0 xs px, S.grow g1⟩ ?_ ?_ ?_
    · rintro i σ' H' _ ⟨F', e, s, _, _, S'⟩
      exact s.trans (S'.fh.trans (wo_sub p H'))
    · rintro i x σ2 H2 H3 hi ⟨F2, e2, s2, pa2, i2, S2⟩ y
      obtain ⟨F3, g3', d, hd, pd⟩ := y F2 s2 (S2.fh.trans (wo_sub p H2))
      have g3 := grow_wo S2.fh pa2.some g3'
      have pa3 := pa2.keep g3'.hh
      have hx : xs[i]? = some xs[i] := List.getElem?_eq_getElem hi
      rw [List.getElem?_map, hx] at hd
      cases hd
      have S3 := S2.grow g3
      refine (ht xs px _ (List.getElem_mem hi)).run _ F0 (withP p H0 H3) F3 H3 _ x _ S3.held pd fun σ' S' _ _ => ?_
      obtain ⟨S', _⟩ := S'.back S3.h0 pa3.some S3.f0 S3.s0
      exact ⟨(xs, i, xs[i], e2), ⟨px, hx, i2⟩, F0, H0, F3, pa3, S', fun c4 e4 σ4 F4 H4 ⟨l4, i4⟩ s4 pa4 S4 => ⟨F4, e4, (s2.trans g3.ff).trans s4, pa4.mono l4, i4, S4⟩⟩
    · rintro σ' H' ⟨F', e, s, pa', i', S'⟩
      exact kk _ e σ' F' H' ⟨rfl, xs, px, i'⟩ (g1.ff.trans s) (pa'.mono (Nat.add_le_add_left (Nat.mul_le_mul_right _ (hz xs px)) c')) S'
/-- an invariant told by slots -/
theorem q_forA {α : Type} (E : List ι → Nat → α → List Ent) (J : List ι → Nat → α → Prop) (hc : X.calm = true) (hi : PI X tg iter (tCanIP X.K p c es enc Pxs c')) (hg : PG X tg g) (ht : ∀ xs, Pxs xs → ∀ x ∈ xs, Tg X.K g (enc x) (φ x) js)
    (h0 : ∀ xs, Pxs xs → ∃ a, J xs 0 a ∧ WkL es (E xs 0 a))
    (hb : ∀ xs, Pxs xs → ∀ i x a, xs[i]? = some x → J xs i a → PSs X body (tStP X.K p (c' + i * k) (φ x (E xs i a)) (.nx fun c2 e => c2 ≤ c' + (i + 1) * k ∧ ∃ b, J xs (i + 1) b ∧ WkL e (E xs (i + 1) b)))) (hz : ∀ xs, Pxs xs → xs.length ≤ n)
    (hp : PassesOwn (model X.prog X.w) X.A X.env X.xe)
    (hm : ∀ x l l', WkL l l' → WkL (φ x l) (φ x l') := by intro x l l' h; first | exact WkL.set _ _ h | exact WkL.set _ _ (WkL.set _ _ h)) (hs : ∀ x, foldedSetIterable iter X.env x = pure x := by intro _; rfl) :
    PS X (.For tg iter body [] pos) (tStP X.K p c es (.nx fun c2 e => c2 = c' + n * k ∧ ∃ xs, Pxs xs ∧ ∃ a, J xs xs.length a ∧ WkL e (E xs xs.length a))) :=
  q_for (fun xs i e => ∃ a, J xs i a ∧ WkL e (E xs i a)) hc hi hg ht h0 (fun xs px i x e hx ⟨a, ja, w⟩ => pp_pre (Nat.le_refl _) (hm x _ _ w) (hb xs px i x a hx ja)) hz hp hs
/-- if t: return ..; the rest -/
theorem q_ifr {B : Bool → Prop} {r q : List Stmt} {R : Rel} (hc : PT X e (tCanTP K p c es B c')) (ha : B true → PSs X r (tStP K p c' es (.rt R c2))) (hb : B false → PSs X q (tStP K p c' es (.rt R c2))) : PSs X (.If e r [] pos :: q) (tStP K p c es (.rt R c2)) :=
  pss_imp (pss_cons (ps_if hc (pps_if ha) pss_nil) (pps_if hb)) fun D σ H ⟨F0, H0, F, pa, S, k⟩ => ⟨F0, H0, F, pa, S, fun d F1 H1 pa1 g hB => by
    cases d with
    | true => exact ⟨hB, F0, H0, F1, pa1, S.grow g, k.pre g.ff⟩
    | false => exact ⟨hB, F0, H0, F1, pa1, S.grow g, k.pre g.ff⟩⟩
/-- range(drawn) -/
theorem i_rangeP {m : Int} {P : PyData → Prop} (hm : X.mg "range" = none) (h : PE X e (tCanP X.K p c es (ExD X.K fun d => ∃ r : Nat, d = .int r ∧ (r : Int) < m) c')) (hn : m ≤ 100000) (hg : Gl X "range" := by rfl) (hs : starEach [e] X.env = [(false, eval e X.env)] := by rfl) :
    PI X tg (.Call (.Name "range" p2) [e] [] pos) (tCanIP X.K p c es (fun i : Nat => .int i) (fun xs => ∃ r : Nat, (r : Int) < m ∧ xs = List.range r) c') :=
  pi_imp (pi_range1 hg hm (pa_cons h pa_nil hs) hs) fun σ H R ⟨F0, H0, F, pa, S, k⟩ => ⟨F0, H0, F, pa, S, fun v F1 H1 pa1 g ⟨d, ⟨r, ed, hr⟩, rd⟩ => by
    subst ed
    have hv : v = .int r := dat_int (H := H1) rd
    subst hv
    refine ⟨r, rfl, by omega, by omega, k _ F1 H1 (List.range r) pa1 g ⟨r, hr, rfl⟩ ?_⟩
    unfold WalkD
    rw [List.length_map, List.length_range]
    refine walk_range.mono (fun _ _ => trivial) fun i H x H' hi _ y F s1 s2 => ?_
    obtain ⟨e, rfl⟩ := y
    subst e
    have hi : i < r := by simpa using hi
    refine ⟨F, Grow.refl s2, .int (i : Nat), by rw [List.getElem?_map, List.getElem?_range hi]; rfl, ?_⟩
    show Dp X.K F (.int (0 + (i : Nat))) (.int (i : Nat))
    rw [Int.zero_add]
    exact .int _⟩
end
end Sr
/-! the calculus beside a pot: tuples, pairs of names -/
namespace Sr
open PySem PySem.Spec PyProof.Rows L2 Dl Sb Nd
section
variable {X : Cx} {K : PySem.W.Frag} {es : List Ent} {a b e : Expr} {pos p2 p3 : Pos} {p : Addr} {c c' c2 : Nat}
theorem tupP_at {F H F1 H1 : Hp} {vs : List V} {ds : List PyData} {Q : VK} {P : PyData → Prop} (pa1 : PotAt p c2 H1) (g : Grow F (wo p H) F1 (wo p H1)) (a : DpAll K F1 vs ds) (pd : P (.tuple ds))
    (k : ∀ v F' H', PotAt p c2 H' → Grow F (wo p H) F' (wo p H') → ExD K P F' (wo p H') v → Q v H') : ∀ q, H1 q = none → Q (.ref q) (upd H1 q (.tup vs)) :=
  tup_at (Grow.refl (g.fh.trans (wo_sub p H1))) a fun v F' H' g' r => k v F' H' (pa1.keep g'.hh) (g.trans (grow_wo g.fh pa1.some g')) ⟨_, pd, r⟩
theorem e_tupleP {P : List PyData → Prop} (hm : X.mg "tuple" = none) (h : PE X e (tCanLP X.K p c es P c')) (hg : Gl X "tuple" := by rfl) (he : starEach [e] X.env = (false, eval e X.env) :: starEach [] X.env := by rfl) :
    PE X (.Call (.Name "tuple" p2) [e] [] pos) (tCanP X.K p c es (ExD X.K fun d => ∃ ds, P ds ∧ d = .tuple ds) c') :=
  pe_imp (pe_callTy call_tuple_of hg hm boot_tuple (pa_cons h pa_nil he) (he := he)) fun σ H Q ⟨F0, H0, F, pa, S, k⟩ => ⟨F0, H0, F, pa, S, fun q vs ds F1 H1 pa1 g pd n n' hp a =>
    ⟨q, vs, rfl, .inl ⟨.inl (.inl (wo_some hp).2), tupP_at pa1 g a ⟨ds, pd, rfl⟩ k⟩⟩⟩
/-- (x, y), both drawn -/
theorem e_tup2P {P1 P2 : PyData → Prop} {j : Nat} (ha : PE X a (tCanP K p c es (ExD K P1) c')) (hb : PE X b (tCanP K p c' es (ExD K P2) c2))
    (h1 : starEach [a, b] X.env = (false, eval a X.env) :: starEach [b] X.env := by rfl) (h2 : starEach [b] X.env = (false, eval b X.env) :: starEach [] X.env := by rfl) :
    PE X (.Tuple [a, b] j pos) (tCanP K p c es (ExD K fun d => ∃ d1 d2, P1 d1 ∧ P2 d2 ∧ d = .tuple [d1, d2]) c2) :=
  pe_imp (pe_tup (pa_cons ha (pa_cons hb pa_nil h2) h1)) fun σ H Q ⟨F0, H0, F, pa, S, k⟩ => ⟨F0, H0, F, pa, S, fun x F1 H1 pa1 g1 ⟨d1, p1, r1⟩ => ⟨F0, H0, F1, pa1, S.grow g1, fun y F2 H2 pa2 g2 ⟨d2, p2, r2⟩ =>
    ⟨by show 2 ≤ sizeLine; decide, tupP_at pa2 (g1.trans g2) (.cons (dp_mono g2.ff _ _ r1) (.cons r2 .nil)) ⟨d1, d2, p1, p2, rfl⟩ k⟩⟩⟩
section
variable {x y : Str} {px py pt pt2 : Pos} {kt k2 : Nat}
/-- a, b = drawn, drawn -/
theorem q_parEE (i j : Nat) {P1 P2 : PyData → Prop} (ha : PE X a (tCanP K p c es (ExD K P1) c')) (hb : PE X b (tCanP K p c' es (ExD K P2) c2)) (hc : X.calm = true) (hN : X.N.Nodup) (hij : i ≠ j := by decide) (hi : X.N[i]? = some x := by rfl) (hj : X.N[j]? = some y := by rfl)
    (hx : X.env.scope.names.lookup x = some .local := by rfl) (hy : X.env.scope.names.lookup y = some .local := by rfl)
    (hw : swappedStores [.Tuple [.Name x px, .Name y py] kt pt] (.Tuple [a, b] k2 pt2) X.env = pure (some [x, y]) := by rfl)
    (hs : swapsWithSole [.Tuple [.Name x px, .Name y py] kt pt] (.Tuple [a, b] k2 pt2) pos.line X.env = pure false := by rfl)
    (h1 : starEach [a, b] X.env = (false, eval a X.env) :: starEach [b] X.env := by rfl) (h2 : starEach [b] X.env = (false, eval b X.env) :: starEach [] X.env := by rfl) :
    PS X (.Assign [.Tuple [.Name x px, .Name y py] kt pt] (.Tuple [a, b] k2 pt2) pos) (tStP K p c es (.nx fun c3 e => c3 = c2 ∧ ∃ d1 d2, P1 d1 ∧ P2 d2 ∧ e = (es.set i (.is (Dat K d1))).set j (.is (Dat K d2)))) :=
  ps_imp (ps_par hc hN hi hj hij hx hy (pa_cons ha (pa_cons hb pa_nil h2) h1) hw hs) fun D σ H ⟨F0, H0, F, pa, S, k⟩ => ⟨F0, H0, F, pa, S, fun v F1 H1 pa1 g1 ⟨d1, p1, r1⟩ => ⟨F0, H0, F1, pa1, S.grow g1, fun w F2 H2 pa2 g2 ⟨d2, p2, r2⟩ =>
    ⟨v, w, rfl, k _ _ _ F2 H2 ⟨rfl, d1, d2, p1, p2, rfl⟩ (g1.trans g2).ff pa2 (((S.grow (g1.trans g2)).set (R := Dat K d1) (dp_mono g2.ff _ _ r1)).set (R := Dat K d2) r2)⟩⟩⟩
/-- a, b = drawn, a new list -/
theorem q_parEL (i j : Nat) {P1 : PyData → Prop} {P2 : List PyData → Prop} (ha : PE X a (tCanP K p c es (ExD K P1) c')) (hb : PE X b (tCanLP K p c' es P2 c2)) (hc : X.calm = true) (hN : X.N.Nodup) (hij : i ≠ j := by decide) (hi : X.N[i]? = some x := by rfl) (hj : X.N[j]? = some y := by rfl)
    (hx : X.env.scope.names.lookup x = some .local := by rfl) (hy : X.env.scope.names.lookup y = some .local := by rfl)
    (hw : swappedStores [.Tuple [.Name x px, .Name y py] kt pt] (.Tuple [a, b] k2 pt2) X.env = pure (some [x, y]) := by rfl)
    (hs : swapsWithSole [.Tuple [.Name x px, .Name y py] kt pt] (.Tuple [a, b] k2 pt2) pos.line X.env = pure false := by rfl)
    (h1 : starEach [a, b] X.env = (false, eval a X.env) :: starEach [b] X.env := by rfl) (h2 : starEach [b] X.env = (false, eval b X.env) :: starEach [] X.env := by rfl) :
    PS X (.Assign [.Tuple [.Name x px, .Name y py] kt pt] (.Tuple [a, b] k2 pt2) pos) (tStP K p c es (.nx fun c3 e => c3 = c2 ∧ ∃ d1 ds, P1 d1 ∧ P2 ds ∧ e = (es.set i (.is (Dat K d1))).set j (.own ds))) :=
  ps_imp (ps_par hc hN hi hj hij hx hy (pa_cons ha (pa_cons hb pa_nil h2) h1) hw hs) fun D σ H ⟨F0, H0, F, pa, S, k⟩ => ⟨F0, H0, F, pa, S, fun v F1 H1 pa1 g1 ⟨d1, p1, r1⟩ => ⟨F0, H0, F1, pa1, S.grow g1, fun q vs ds F2 H2 pa2 g2 pd n n' hq ad =>
    ⟨v, .ref q, rfl, k _ _ _ F2 H2 ⟨rfl, d1, ds, p1, pd, rfl⟩ (g1.trans g2).ff pa2 (setOwnP ((S.grow g1).set (R := Dat K d1) r1) g2 n n' hq ad)⟩⟩⟩
end
/-- some data: which it is -/
theorem pp_ex {st : List Stmt} {o : OutP} {P : Nat → List Ent → Prop} (h : ∀ c e, P c e → PSs X st (tStP K p c e o)) {s0 : Stmt} (h0 : PS X s0 (tStP K p c es (.nx P))) : PSs X (s0 :: st) (tStP K p c es o) := pp_cons h0 h
end
end Sr
/-! the calculus beside a pot: small rules -/
namespace Sr
open PySem PySem.Spec PyProof.Rows L2 Dl Sb Nd
section
variable {X : Cx} {K : PySem.W.Frag} {es : List Ent} {a b e : Expr} {pos p2 p3 : Pos} {p : Addr} {c c' c2 : Nat}
/-- a drawn number below m -/
def LtInt (m : Int) : PyData → Prop := fun d => ∃ r : Nat, d = .int r ∧ (r : Int) < m
/-- n + drawn -/
theorem e_addP {n m : Int} (h0 : 0 ≤ n) (ha : PE X a (tCan X.K es (Dat X.K (.int n)))) (hb : PE X b (tCanP X.K p c es (ExD X.K fun d => ∃ r : Nat, d = .int r ∧ (r : Int) < m) c')) :
    PE X (.BinOp a .Add b pos) (tCanP X.K p c es (ExD X.K fun d => ∃ r : Nat, d = .int r ∧ n ≤ (r : Int) ∧ (r : Int) < n + m) c') :=
  pe_imp (pe_op op_add (e_lift (c' := c) ha (Nat.le_refl _)) hb) (can2P fun x y F H Q s hx ⟨d, ⟨r, ed, hr⟩, hy⟩ k => by
    subst ed
    obtain ⟨n', rfl⟩ := Int.eq_ofNat_of_zero_le h0
    refine ⟨(n' : Int), (r : Int), dat_int hx, dat_int (H := H) hy, k _ F H (Grow.refl s) ⟨_, ⟨n' + r, rfl, by omega, by omega⟩, ?_⟩⟩
    rw [Int.natCast_add]
    exact .int _)
theorem ts_nilP : PTs X [] (tCanTP K p c es (· = true) (c + 0)) := ⟨fun pins s σ H Q I ⟨F0, H0, F, pa, S, k⟩ => pts_nil.run pins s σ H Q I (k true F H pa (Grow.refl S.fh) rfl)⟩
/-- list(range(n)) -/
theorem e_listRg {n : Nat} {pr : Pos} (hc : X.calm = true) (hl : X.mg "list" = none) (hm : X.mg "range" = none) (h : PE X e (tCan X.K es (Dat X.K (.int n)))) (hn : n ≤ 100000) (hg : Gl X "list" := by rfl) (hr : Gl X "range" := by rfl)
    (na : starEach [e] X.env = (false, eval e X.env) :: starEach [] X.env := by rfl) (na2 : starEach [.Call (.Name "range" pr) [e] [] p2] X.env = (false, eval (.Call (.Name "range" pr) [e] [] p2) X.env) :: starEach [] X.env := by rfl) :
    PE X (.Call (.Name "list" p3) [.Call (.Name "range" pr) [e] [] p2] [] pos) (tCanL X.K es (· = (List.range n).map nD)) :=
  pe_imp (pe_listRg hc hg hl (prg_1 hr hm h na) na2) fun σ H Q ⟨F0, H0, F, S, k⟩ => ⟨F0, H0, F, S, fun v F1 H1 g r => by
    have hv : v = .int n := dat_int (H := H1) r
    refine ⟨n, hv, RgOk.of_le (by omega) (by omega) (by omega) (by omega), ?_⟩
    refine new_at (P := (· = (List.range n).map nD)) g rfl ?_ k
    unfold rgV
    have e1 : ((n : Int) - 0).toNat = n := by omega
    rw [e1]
    have : ∀ l : List Nat, DpAll X.K F1 (l.map fun i => V.int (0 + (i : Nat))) (l.map nD) := by
      intro l
      induction l with
      | nil => exact .nil
      | cons x l ih => exact .cons (by show Dp X.K F1 (.int (0 + (x : Int))) (.int x); rw [Int.zero_add]; exact .int _) ih
    exact this _⟩
/-- a, b = drawn, drawn by way of the tuple -/
theorem q_tupEE (i j : Nat) {tg : Expr} {k2 : Nat} {pt2 : Pos} {P1 P2 : PyData → Prop} (ha : PE X a (tCanP X.K p c es (ExD X.K P1) c')) (hb : PE X b (tCanP X.K p c' es (ExD X.K P2) c2)) (hg : PG X tg (gTup X.K 2 (gCons (gName i) (gCons (gName j) gNil))))
    (hs : swapsWithSole [tg] (.Tuple [a, b] k2 pt2) pos.line X.env = pure false := by rfl) (hw : swappedStores [tg] (.Tuple [a, b] k2 pt2) X.env = pure none := by rfl) (h0 : (assignEach [tg] X.env).map (·.2) = [assign tg X.env] := by rfl)
    (h1 : starEach [a, b] X.env = (false, eval a X.env) :: starEach [b] X.env := by rfl) (h2 : starEach [b] X.env = (false, eval b X.env) :: starEach [] X.env := by rfl) :
    PS X (.Assign [tg] (.Tuple [a, b] k2 pt2) pos) (tStP X.K p c es (.nx fun c3 e => c3 = c2 ∧ ∃ d1 d2, P1 d1 ∧ P2 d2 ∧ e = (es.set i (.is (Dat X.K d1))).set j (.is (Dat X.K d2)))) :=
  ps_imp (ps_asg (pe_tup (pa_cons ha (pa_cons hb pa_nil h2) h1)) hg hs hw h0) fun D σ H ⟨F0, H0, F, pa, S, k⟩ => ⟨F0, H0, F, pa, S, fun v F1 H1 pa1 g1 ⟨d1, p1, r1⟩ => ⟨F0, H0, F1, pa1, S.grow g1, fun w F2 H2 pa2 g2 ⟨d2, p2, r2⟩ => by
    refine ⟨by show 2 ≤ sizeLine; decide, fun T n => ?_⟩
    have g12 := g1.trans g2
    have g3 := grow_wo_newH (o := .tup [v, w]) g12.fh n pa2.some
    have hT : T ≠ p := fun z => pa2.some (z ▸ n)
    exact ⟨T, [v, w], rfl, .inl (.inl upd_same), rfl, v, [w], rfl, w, [], rfl, rfl, k _ _ _ F2 _ ⟨rfl, d1, d2, p1, p2, rfl⟩ g12.ff (PotAt.upd pa2 hT) (((S.grow (g12.trans g3)).set (R := Dat X.K d1) (dp_mono g2.ff _ _ r1)).set (R := Dat X.K d2) r2)⟩⟩⟩
end
end Sr
/-! small_heap -/
namespace Sr
open PySem PySem.Spec PyProof.Rows L2 Dl Sb Nd
variable {P : Program} {w : World} {mg : Str → Option Value} {base : Heap} {K : PySem.W.Frag}
structure HeapI.Ok (h : HeapI) : Prop where
  w1 : 1 ≤ h.w
  w2 : h.w ≤ 2
  n1 : 3 ≤ h.slots.length
  n2 : h.slots.length ≤ 4
  lh : h.held.length = 2
  row : ∀ r ∈ h.slots, r.length = h.w ∧ ∀ x, some x ∈ r → x < h.slots.length
  hb : ∀ r ∈ h.held, r.length ≤ 4 ∧ ∀ x ∈ r, x < h.slots.length
theorem HeapI.Ok.start {h : HeapI} (o : h.Ok) : (startS h.w h.slots h.held).Ok 0 where
  w1 := o.w1
  w2 := o.w2
  n := o.n2
  lc := List.length_replicate
  lh := o.lh
  ls := by show (List.replicate h.held.length false).length = 2; rw [List.length_replicate, o.lh]
  row := o.row
  hb := o.hb
abbrev RSmall (K : PySem.W.Frag) : Unit → Rel := fun _ => ExD K fun d => ∃ h : HeapI, h.Ok ∧ d = heapD h
abbrev FSmall (P : Program) (w : World) (K : PySem.W.Frag) (mg : Str → Option Value) (base : Heap) : Prop := FnAt P w K mg base 3 "_law_small_heap" (spP K 30 (fun _ : Unit => True) (fun _ => []) (RSmall K))
/-- one row of slots -/
theorem rows_of {n m : Nat} {ds : List PyData} (h : LcR (ι := Nat) (fun _ b => b = true) (fun _ d => ∃ o : Option Nat, (∀ x, o = some x → x < n) ∧ d = oD o) (List.range m) ds) : ∃ r : List (Option Nat), ds = r.map oD ∧ r.length = m ∧ ∀ x, some x ∈ r → x < n := by
  have hl := h.all
  rw [List.length_range] at hl
  have hm : ∀ d ∈ ds, ∃ o : Option Nat, (∀ x, o = some x → x < n) ∧ d = oD o := fun d hd => let ⟨_, _, q⟩ := h.mem d hd; q
  clear h
  subst hl
  induction ds with
  | nil => exact ⟨[], rfl, rfl, fun x h => by cases h⟩
  | cons d ds ih =>
    obtain ⟨r, e, l, q⟩ := ih fun d hd => hm d (List.mem_cons_of_mem _ hd)
    obtain ⟨o, ho, ed⟩ := hm d List.mem_cons_self
    refine ⟨o :: r, by rw [e, ed]; rfl, by rw [List.length_cons, List.length_cons, l], fun x hx => ?_⟩
    rcases List.mem_cons.mp hx with z | z
    · exact ho x z.symm
    · exact q x z
theorem held_of {n m : Nat} {ds : List PyData} {B : Nat → Bool → Prop} (h : LcR B (fun i d => i < n ∧ d = nD i) (List.range m) ds) : ∃ r : List Nat, ds = r.map nD ∧ r.length ≤ m ∧ ∀ x ∈ r, x < n := by
  have hl := h.len
  rw [List.length_range] at hl
  have hm : ∀ d ∈ ds, ∃ i : Nat, i < n ∧ d = nD i := fun d hd => let ⟨i, _, q⟩ := h.mem d hd; ⟨i, q⟩
  clear h
  have : ∃ r : List Nat, ds = r.map nD ∧ r.length = ds.length ∧ ∀ x ∈ r, x < n := by
    clear hl
    induction ds with
    | nil => exact ⟨[], rfl, rfl, fun x h => by cases h⟩
    | cons d ds ih =>
      obtain ⟨r, e, l, q⟩ := ih fun d hd => hm d (List.mem_cons_of_mem _ hd)
      obtain ⟨o, ho, ed⟩ := hm d List.mem_cons_self
      refine ⟨o :: r, by rw [e, ed]; rfl, by rw [List.length_cons, List.length_cons, l], fun x hx => ?_⟩
      rcases List.mem_cons.mp hx with z | z
      · rw [z]; exact ho
      · exact q x z
  obtain ⟨r, e, l, q⟩ := this
  exact ⟨r, e, by omega, q⟩
theorem small_mem {n : Nat} {d : PyData} (h : d ∈ [PyData.none] ++ (List.replicate (2 : Int).toNat ((List.range n).map nD)).flatten) : ∃ o : Option Nat, (∀ x, o = some x → x < n) ∧ d = oD o := by
  rcases List.mem_append.mp h with z | z
  · rw [List.mem_singleton.mp z]
    exact ⟨none, ⟨fun x h => (nomatch h), rfl⟩⟩
  · obtain ⟨l, hl, hd⟩ := List.mem_flatten.mp z
    rw [List.eq_of_mem_replicate hl] at hd
    obtain ⟨i, hi, e⟩ := List.mem_map.mp hd
    refine ⟨some i, fun x hx => ?_, e.symm⟩
    cases hx
    exact List.mem_range.mp hi
theorem ts_oneP {X : Cx} {es : List Ent} {e : Expr} {p : Addr} {c c' : Nat} {B : Bool → Prop} (h : PT X e (tCanTP K p c es B c')) : PTs X [e] (tCanTP K p c es B c') := pts_one h
set_option maxHeartbeats 1000000 in
theorem f_small (B : Bi mg) (D : DefAt K mg "_law_small_heap" s_l_small_heap) (T : FnAt P w K mg base 1 "_law_take" spTake) (O : FnAt P w K mg base 2 "_law_of" (spOf K)) : FSmall P w K mg base :=
  def_P D S_l_small_heap (fun f fd F => F.binds fun _ _ _ _ _ _ us hl => match us, hl with | [_], _ => rfl) (fun _ => inferInstance) (fun _ => rfl) fun f cdv A outer s0 H E hr _ p c _ hc => by
    have hu := hu65 hr
    have hr1 := hr.mono (show 1 ≤ 2 by decide)
    refine pp_to [.is (Is (.ref p)), .no, .no, .no, .no, .no, .no, .no] ?_
    refine pp_cons (q_tupEE 1 2 (e_addP (m := 2) (by decide) e_int (e_take T hr1 (e_v 0) e_int ⟨by decide, by decide⟩ (by omega))) (e_addP (m := 2) (by decide) e_int (e_take T hr1 (e_v 0) e_int ⟨by decide, by decide⟩ (by omega))) (pg_tup rfl (pgs_cons (pg_name (i := 1) S_l_small_heap.nd rfl (.inl rfl)) (pgs_cons (pg_name (i := 2) S_l_small_heap.nd rfl (.inr rfl)) pgs_nil)))) ?_
    rintro c2 e ⟨rfl, d1, d2, ⟨wd, rfl, hw1, hw2⟩, ⟨n, rfl, hn1, hn2⟩, rfl⟩
    refine pp_to [.is (Is (.ref p)), .is (Dat K (.int wd)), .is (Dat K (.int n)), .no, .no, .no, .no, .no] ?_
    refine pp_cons (s_lift (s_setL1 3 (e_lst d_nil) S_l_small_heap.nd)) ?_
    rintro c3 e ⟨rfl, rfl⟩
    refine pp_to [.is (Is (.ref p)), .is (Dat K (.int wd)), .is (Dat K (.int n)), .own [], .no, .no, .no, .no] ?_
    refine pp_cons (q_forA (k := 2) (n := 4) (α := List (List (Option Nat))) (Pxs := (· = List.range n)) (enc := nD) (js := [4]) (φ := fun x e => e.set 4 (.is (Dat K (nD x)))) (fun _ _ rows => [.is (Is (.ref p)), .is (Dat K (.int wd)), .is (Dat K (.int n)), .own (rows.map rowD), .no, .no, .no, .no])
      (fun _ i rows => rows.length = i ∧ ∀ r ∈ rows, r.length = wd ∧ ∀ x, some x ∈ r → x < n) rfl (i_lift (c' := c + 1 + 1) (i_exact (i_range (n := (n : Nat)) B.range (d_cons (e_v 2) d_nil) (by omega) (by omega))) (Nat.le_refl _)) (pg_name (i := 4) S_l_small_heap.nd rfl (.inl rfl)) (fun _ _ n _ => tg_name 4 _)
      (fun xs hx => ⟨[], ⟨rfl, fun r h => by cases h⟩, WkL.refl _⟩) ?_ (fun xs hx => by rw [hx, List.length_range]; omega) ?_) ?_
    · rintro xs rfl i x rows hx ⟨hl, hq⟩
      have hi : i < n := by
        have := (List.getElem?_eq_some_iff.mp hx).1
        rwa [List.length_range] at this
      refine pp_to [.is (Is (.ref p)), .is (Dat K (.int wd)), .is (Dat K (.int n)), .own (rows.map rowD), .is (Dat K (nD x)), .no, .no, .no] ?_
      refine pp_nx (pp_one (q_app 3 rfl (e_tupleP B.tuple (e_lcP (ct := 0) (ce := 1) (n := 2) (B := fun _ b => b = true) (Qf := fun _ d => ∃ o : Option Nat, (∀ x, o = some x → x < n) ∧ d = oD o) (Pxs := (· = List.range wd)) (enc := nD) (own := [("_law_turn", 6)]) rfl S_l_small_heap.nd
        (i_exact (i_range (n := (wd : Nat)) B.range (d_cons (e_v 1) d_nil) (by omega) (by omega))) (blkOk_by (N := N_l_small_heap) (sc := defScope s_l_small_heap) (by decide +kernel)) (fun _ _ _ _ _ => pg_name (i := 6) S_l_small_heap.nd rfl (.inl rfl)) (fun _ _ n _ => tg_name 6 _) (by simp)
        (fun _ _ _ _ c2 _ _ _ _ _ _ => ts_nilP)
        (fun _ _ _ _ c2 hc2 _ _ _ _ _ => e_wkP (e_of O hr (e_v 0) (l_new (e_catL (e_trk (e_lst (d_cons e_non d_nil))) (e_trk (e_rep (e_trk (e_listRg (n := n) rfl B.list B.range (e_v 2) (by omega))) e_int (by decide) (by decide) (by rw [List.length_map, List.length_range]; show n * 2 ≤ 100000; omega))) (by simp; omega))) (by simp) (by simp; omega) (by omega)) (fun F H v _ ⟨d, hd, r⟩ => ⟨d, small_mem hd, r⟩))
        (fun xs hx => by rw [hx, List.length_range]; omega) (by decide))) (by rw [List.length_map]; omega))) ?_
      rintro c5 e ⟨rfl, d, ⟨ds, ⟨_, rfl, hlc⟩, rfl⟩, rfl⟩
      obtain ⟨r, rfl, hr1, hr2⟩ := rows_of hlc
      refine ⟨by omega, rows ++ [r], ⟨by rw [List.length_append, hl]; rfl, fun r' h' => ?_⟩, ?_⟩
      · rcases List.mem_append.mp h' with z | z
        · exact hq r' z
        · rw [List.mem_singleton.mp z]; exact ⟨hr1, hr2⟩
      · rw [List.map_append]
        exact .same (.same (.same (.same (.drop (.same (.same (.same .nil)))))))
    · exact PassesOwn.never
    · rintro c6 e ⟨rfl, xs, rfl, slots, ⟨hl, hq⟩, w6⟩
      rw [List.length_range] at hl
      refine pp_pre (Nat.le_refl _) w6 ?_
      refine pp_to [.is (Is (.ref p)), .is (Dat K (.int wd)), .is (Dat K (.int n)), .own (slots.map rowD), .no, .no, .no, .no] ?_
      refine pp_cons (q_lc 5 (ct := 0) (ce := 4) (n := 2) (B := fun _ b => b = true) (Qf := fun _ d => ∃ r : List Nat, d = hrowD r ∧ r.length ≤ 4 ∧ ∀ x ∈ r, x < n) (Pxs := (· = List.range 2)) (enc := nD) (own := [("_law_thread", 7)]) rfl S_l_small_heap.nd
        (i_exact (i_range (n := (2 : Nat)) B.range (d_cons e_int d_nil) (by decide) (by decide))) (blkOk_by (N := N_l_small_heap) (sc := defScope s_l_small_heap) (by decide +kernel)) (fun _ _ _ _ _ => pg_name (i := 7) S_l_small_heap.nd rfl (.inl rfl)) (fun _ _ n _ => tg_name 7 _) (by simp)
        (fun _ _ _ _ c2 _ _ _ _ _ _ => ts_nilP)
        (fun _ _ _ _ c2 hc2 _ _ _ _ _ => e_wkP (e_tupleP B.tuple (e_lcP (ct := 1) (ce := 0) (n := 4) (B := fun _ _ => True) (Qf := fun i d => i < n ∧ d = nD i) (Pxs := (· = List.range n)) (enc := nD) (own := [("_law_number", 4)]) rfl S_l_small_heap.nd
          (i_exact (i_range (n := (n : Nat)) B.range (d_cons (e_v 2) d_nil) (by omega) (by omega))) (blkOk_by (by kernel_rfl)) (fun _ _ _ _ _ => pg_name (i := 4) S_l_small_heap.nd rfl (.inl rfl)) (fun _ _ n _ => tg_name 4 _) (by simp)
          (fun _ _ _ _ c3 hc3 _ _ _ _ _ => ts_oneP (t_eqP (hu64 hr) (e_anInt (e_take T hr1 (e_v 0) e_int ⟨by decide, by decide⟩ (by omega)) (fun d ⟨r, e, _⟩ => ⟨r, e⟩)) e_int rfl))
          (fun xs hx i hi c3 hc3 _ _ _ _ _ => e_wkP (e_lift (R := Dat K (nD i)) (e_v 4) (Nat.le_refl _)) (fun F H v _ r => ⟨_, ⟨by rw [hx] at hi; exact List.mem_range.mp hi, rfl⟩, r⟩))
          (fun xs hx => by rw [hx, List.length_range]; omega) (by decide))) (fun F H v _ ⟨d, ⟨ds, ⟨xs, hx, hlc⟩, e⟩, r⟩ => by
            subst hx
            obtain ⟨q, e2, q1, q2⟩ := held_of hlc
            exact ⟨_, ⟨q, by rw [e, e2]; rfl, by omega, q2⟩, r⟩))
        (fun xs hx => by rw [hx]; decide) (by decide)) ?_
      rintro c7 e ⟨rfl, ds, ⟨_, rfl, hlc⟩, rfl⟩
      have hl2 := hlc.all
      have hex : ∀ l : List PyData, (∀ d ∈ l, ∃ r : List Nat, d = hrowD r ∧ r.length ≤ 4 ∧ ∀ x ∈ r, x < n) → ∃ held : List (List Nat), l = held.map hrowD ∧ ∀ r ∈ held, r.length ≤ 4 ∧ ∀ x ∈ r, x < n := by
        intro l
        induction l with
        | nil => exact fun _ => ⟨[], rfl, fun r h => (nomatch h)⟩
        | cons d l ih =>
          intro h
          obtain ⟨held, e, q⟩ := ih fun d hd => h d (List.mem_cons_of_mem _ hd)
          obtain ⟨r, ed, q1⟩ := h d List.mem_cons_self
          refine ⟨r :: held, by rw [e, ed]; rfl, fun r' h' => ?_⟩
          rcases List.mem_cons.mp h' with z | z
          · rw [z]; exact q1
          · exact q r' z
      obtain ⟨held, rfl, hh⟩ := hex ds fun d hd => let ⟨_, _, q⟩ := hlc.mem d hd; q
      rw [List.length_map, List.length_range] at hl2
      refine pp_to [.is (Is (.ref p)), .is (Dat K (.int wd)), .is (Dat K (.int n)), .own (slots.map rowD), .no, .own (held.map hrowD), .no, .no] ?_
      refine ss_liftR (m := inferInstance) (ss_one (s_ret (e_toG (e_tup (ds := [.int wd, .tuple (slots.map rowD), .tuple (held.map hrowD)]) (d_cons (e_v 1) (d_cons (e_tuple B.tuple (e_lsdT (e_o 3))) (d_cons (e_tuple B.tuple (e_lsdT (e_o 5))) d_nil)))) ⟨⟨wd, slots, held⟩, ?_, rfl⟩))) (by omega)
      exact ⟨by show 1 ≤ wd; omega, by show wd ≤ 2; omega, by show 3 ≤ slots.length; omega, by show slots.length ≤ 4; omega, hl2, fun r hr => ⟨(hq r hr).1, fun x hx => by show x < slots.length; rw [hl]; exact (hq r hr).2 x hx⟩, fun r hr => ⟨(hh r hr).1, fun x hx => by show x < slots.length; rw [hl]; exact (hh r hr).2 x hx⟩⟩
end Sr
/-! any_table, given marks and table -/
namespace Sr
open PySem PySem.Spec PyProof.Rows L2 Dl Sb Nd
variable {P : Program} {w : World} {mg : Str → Option Value} {base : Heap} {K : PySem.W.Frag}
def MksOk (M : List Mk) : Prop := (∀ m ∈ M, m.ok = true) ∧ M.length ≤ 300
abbrev FMarks (P : Program) (w : World) (K : PySem.W.Frag) (mg : Str → Option Value) (base : Heap) : Prop :=
  FnD P w K mg base 1 "_law_marks" (fun _ : Unit => True) (fun _ => []) (fun _ => ExD K fun d => ∃ M, (MksOk M ∧ 0 < M.length) ∧ d = .list (M.map mkD))
abbrev RTab (K : PySem.W.Frag) : Unit → Rel := fun _ => ExD K fun d => ∃ M rs, MksOk M ∧ d = tabD M rs
abbrev FTable (P : Program) (w : World) (K : PySem.W.Frag) (mg : Str → Option Value) (base : Heap) : Prop := FnAt P w K mg base 3 "_law_table" (spP K 400 (fun _ : Unit => True) (fun _ => []) (RTab K))
abbrev FAnyTable (P : Program) (w : World) (K : PySem.W.Frag) (mg : Str → Option Value) (base : Heap) : Prop := FnAt P w K mg base 4 "_law_any_table" (spP K 500 (fun _ : Unit => True) (fun _ => []) (RTab K))
theorem mks_of {M : List Mk} {ds : List PyData} {B : Mk → Bool → Prop} (hM : MksOk M) (h : LcR B (fun m d => m ∈ M ∧ d = mkD m) M ds) : ∃ M', MksOk M' ∧ ds = M'.map mkD := by
  have hl := h.len
  have hm : ∀ d ∈ ds, ∃ m, m ∈ M ∧ d = mkD m := fun d hd => let ⟨m, _, q⟩ := h.mem d hd; ⟨m, q⟩
  clear h
  have : ∃ M' : List Mk, ds = M'.map mkD ∧ M'.length = ds.length ∧ ∀ m ∈ M', m ∈ M := by
    clear hl
    induction ds with
    | nil => exact ⟨[], rfl, rfl, fun x h => (nomatch h)⟩
    | cons d ds ih =>
      obtain ⟨r, e, l, q⟩ := ih fun d hd => hm d (List.mem_cons_of_mem _ hd)
      obtain ⟨o, ho, ed⟩ := hm d List.mem_cons_self
      refine ⟨o :: r, by rw [e, ed]; rfl, by rw [List.length_cons, List.length_cons, l], fun x hx => ?_⟩
      rcases List.mem_cons.mp hx with z | z
      · rw [z]; exact ho
      · exact q x z
  obtain ⟨M', e, l, q⟩ := this
  exact ⟨M', ⟨fun m hm' => hM.1 m (q m hm'), by have := hM.2; omega⟩, e⟩
theorem q_retc {X : Cx} {es : List Ent} {e : Expr} {pos : Pos} {p : Addr} {c c' c2 : Nat} {R : Rel} (he : PE X e (tCanP K p c es R c')) (l : c' ≤ c2) : PSs X [.Return (some e) pos] (tStP K p c es (.rt R c2)) := pp_one (q_ret (e_wkc he l))
set_option maxHeartbeats 1000000 in
theorem f_any_table (B : Bi mg) (D : DefAt K mg "_law_any_table" s_l_any_table) (T : FnAt P w K mg base 1 "_law_take" spTake) (FM : FMarks P w K mg base) (FT : FTable P w K mg base) : FAnyTable P w K mg base :=
  def_P D S_l_any_table (fun f fd F => F.binds fun _ _ _ _ _ _ us hl => match us, hl with | [_], _ => rfl) (fun _ => inferInstance) (fun _ => rfl) fun f cdv A outer s0 H E hr _ p c _ hc => by
    have hr1 := hr.mono (show 1 ≤ 3 by decide)
    have hu := hu64 hr
    refine pp_to [.is (Is (.ref p)), .no, .no, .no] ?_
    refine pp_cons (q_parEE 1 2 (e_take T hr1 (e_v 0) e_int ⟨by decide, by decide⟩ (by omega)) (e_lift (e_call0 FM () trivial hr1) (Nat.le_refl _)) rfl S_l_any_table.nd) ?_
    rintro c2 e ⟨rfl, d1, d2, ⟨r, rfl, hr5⟩, ⟨M, ⟨hM, _⟩, rfl⟩, rfl⟩
    have hl := hM.2
    refine pp_to [.is (Is (.ref p)), .is (Dat K (.int r)), .is (Dat K (.list (M.map mkD))), .no] ?_
    refine q_ifr (t_lift (t_eq hu (e_v 1) e_int rfl rfl rfl) (Nat.le_refl _)) (fun _ => q_retc (e_wkP (e_tup2P (e_lift (e_toG (P := (· = .tuple (M.map mkD))) (e_tuple B.tuple (e_lsd (e_v 2))) rfl) (Nat.le_refl _)) (e_eqP hu (e_anInt (e_take T hr1 (e_v 0) e_int ⟨by decide, by decide⟩ (by omega)) (fun d ⟨r, e, _⟩ => ⟨r, e⟩)) e_int rfl)) (by
      rintro F H v _ ⟨d, ⟨d1, d2, rfl, ⟨b, rfl, _⟩, rfl⟩, r⟩
      exact ⟨_, ⟨M, b, hM, rfl⟩, r⟩)) (by omega)) fun _ => ?_
    refine q_ifr (t_lift (t_eq hu (e_v 1) e_int rfl rfl rfl) (Nat.le_refl _)) (fun _ => q_retc (e_wkP (e_tup2P (e_lift (e_toG (P := (· = .tuple [])) (e_tup d_nil) rfl) (Nat.le_refl _)) (e_eqP hu (e_anInt (e_take T hr1 (e_v 0) e_int ⟨by decide, by decide⟩ (by omega)) (fun d ⟨r, e, _⟩ => ⟨r, e⟩)) e_int rfl)) (by
      rintro F H v _ ⟨d, ⟨d1, d2, rfl, ⟨b, rfl, _⟩, rfl⟩, r⟩
      exact ⟨_, ⟨[], b, ⟨fun m h => (nomatch h), by decide⟩, rfl⟩, r⟩)) (by omega)) fun _ => ?_
    refine q_ifr (t_lift (t_eq hu (e_v 1) e_int rfl rfl rfl) (Nat.le_refl _)) (fun _ => q_retc (e_wkP (e_tup2P (e_tupleP B.tuple (e_lcP (ct := 1) (ce := 0) (n := 300) (B := fun _ _ => True) (Qf := fun m d => m ∈ M ∧ d = mkD m) (Pxs := (· = M)) (enc := mkD) (own := [("_law_mark", 3)]) rfl S_l_any_table.nd
        (i_exact (i_lst (e_v 2))) (blkOk_by (N := N_l_any_table) (sc := defScope s_l_any_table) (by decide +kernel)) (fun _ _ _ _ _ => pg_name (i := 3) S_l_any_table.nd rfl (.inl rfl)) (fun _ _ m _ => tg_name 3 _) (by simp)
        (fun _ _ _ _ c3 hc3 _ _ _ _ _ => ts_oneP (t_eqP hu (e_anInt (e_take T hr1 (e_v 0) e_int ⟨by decide, by decide⟩ (by omega)) (fun d ⟨r, e, _⟩ => ⟨r, e⟩)) e_int rfl))
        (fun xs hx m hm c3 hc3 _ _ _ _ _ => e_wkP (e_lift (R := Dat K (mkD m)) (e_v 3) (Nat.le_refl _)) (fun F H v _ r => ⟨_, ⟨by rw [hx] at hm; exact hm, rfl⟩, r⟩))
        (fun xs hx => by rw [hx]; omega) (by decide))) (e_eqP hu (e_anInt (e_take T hr1 (e_v 0) e_int ⟨by decide, by decide⟩ (by omega)) (fun d ⟨r, e, _⟩ => ⟨r, e⟩)) e_int rfl)) (by
      rintro F H v _ ⟨d, ⟨d1, d2, ⟨ds, ⟨_, rfl, hlc⟩, rfl⟩, ⟨b, rfl, _⟩, rfl⟩, r⟩
      obtain ⟨M', hM', rfl⟩ := mks_of hM hlc
      exact ⟨_, ⟨M', b, hM', rfl⟩, r⟩)) (by omega)) fun _ => ?_
    exact q_retc (e_callP FT () trivial hr (a_cons (e_v 0) a_nil) (by omega) (fun T h => (nomatch h))) (by omega)
end Sr
/-! the calculus beside a pot: of a new list, or -/
namespace Sr
open PySem PySem.Spec PyProof.Rows L2 Dl Sb Nd
variable {P : Program} {w : World} {mg : Str → Option Value} {base : Heap}
section
variable {X : Cx} {K : PySem.W.Frag} {es : List Ent} {a b e : Expr} {pos p2 p3 : Pos} {p : Addr} {c c' c2 : Nat}
/-- some list to be read -/
def LsdG (K : PySem.W.Frag) (Pd : List PyData → Prop) : Rel := fun F H v => ∃ ds, Pd ds ∧ Lsd K ds F H v
theorem l_newG {Pd : List PyData → Prop} (h : PE X e (tCanL K es Pd)) : PE X e (tCanP K p c es (LsdG K Pd) c) :=
  pe_imp (e_liftL (p := p) (c := c) (c' := c) h (Nat.le_refl _)) fun σ H Q ⟨F0, H0, F, pa, S, k⟩ => ⟨F0, H0, F, pa, S, fun q vs ds' F' H' pa' g pd n n' hq ha => k _ F' H' pa' g ⟨ds', pd, q, vs, rfl, .inl (.inl hq), ha⟩⟩
/-- of(pot, some list) -/
theorem e_ofG {Pd : List PyData → Prop} (O : FnAt P w K mg base 2 "_law_of" (spOf K)) (hr : Room 2 X.A) (ha : PE X a (tCan K es (Is (.ref p)))) (hb : PE X b (tCanP K p c es (LsdG K Pd) c)) (h0 : ∀ ds, Pd ds → 0 < ds.length ∧ ds.length < 1000000) (hc : c < 1000000)
    (x1 : X.prog = P := by rfl) (x2 : X.w = w := by rfl) (x3 : X.K = K := by rfl) (x4 : X.mg = mg := by rfl) (x5 : X.base = base := by rfl) (hg : Gl X "_law_of" := by rfl)
    (h1 : starEach [a, b] X.env = (false, eval a X.env) :: starEach [b] X.env := by rfl) (h2 : starEach [b] X.env = (false, eval b X.env) :: starEach [] X.env := by rfl) (hpl : (backTo pos (starEach [b] X.env)).any (·.1) = false := by rfl) :
    PE X (.Call (.Name "_law_of" p2) [a, b] [] pos) (tCanP K p c es (ExD K fun d => ∃ ds, Pd ds ∧ d ∈ ds) (c + 1)) := by
  subst x1; subst x2; subst x3; subst x4; subst x5
  obtain ⟨f, fd, ps, F, hm', hk, hbd⟩ := O.ex
  refine pe_imp (pe_call F hr hg hm' hk hbd .nil pass0 (pa_cons (e_lift (p := p) (c := c) (c' := c) ha (Nat.le_refl _)) (pa_cons hb pa_nil h2) h1) (by decide) h1 hpl) fun σ H Q ⟨F0, H0, F, pa, S, k⟩ => ⟨F0, H0, F, pa, S, fun x F1 H1 pa1 g1 r1 => ⟨F0, H0, F1, pa1, S.grow g1, fun y F2 H2 pa2 g2 ⟨ds, pds, l, us, ey, hl, hd⟩ => ?_⟩⟩
  have r1 : x = .ref p := r1
  subst r1
  subst ey
  have hlen := dpa_len hd
  have hb := h0 ds pds
  refine ⟨p, l, c, us, rfl, hc, pa2, hl, by omega, by omega, fun H' v bu pa' hv => ?_⟩
  obtain ⟨i, hi⟩ := List.getElem?_of_mem hv
  obtain ⟨d, hdi, pd⟩ := dpa_at hd hi
  exact k v F2 H' pa' (grow_but (g1.trans g2) bu) ⟨d, ⟨ds, pds, List.mem_of_getElem? hdi⟩, pd⟩
/-- drawn or plain: some answer -/
theorem w_or1P {B : Bool → Prop} (h : PT X a (tCanTP K p c es B c')) : PW X (.BoolOp .Or [a] pos) (tCanTP K p c es B c') := pw_or1 h
theorem w_orP {B : Bool → Prop} {r : List Expr} (ha : PT X a (tCanTP K p c es B c')) (hb : PW X (.BoolOp .Or (b :: r) pos) (tCanTP K p c' es (fun _ => True) c2)) (l : c' ≤ c2) : PW X (.BoolOp .Or (a :: b :: r) pos) (tCanTP K p c es (fun _ => True) c2) :=
  pw_imp (pw_or ha hb) fun σ H Q ⟨F0, H0, F, pa, S, k⟩ => ⟨F0, H0, F, pa, S, fun d F1 H1 pa1 g _ => by
    cases d with
    | true => exact k _ F1 H1 (pa1.mono l) g trivial
    | false => exact ⟨F0, H0, F1, pa1, S.grow g, fun b F2 H2 pa2 g2 _ => k b F2 H2 pa2 (g.trans g2) trivial⟩⟩
theorem t_wkP {B B' : Bool → Prop} (h : PT X e (tCanTP K p c es B c')) (w : ∀ b, B b → B' b) : PT X e (tCanTP K p c es B' c') := pt_imp h fun σ H Q ⟨F0, H0, F, pa, S, k⟩ => ⟨F0, H0, F, pa, S, fun b F1 H1 pa1 g hb => k b F1 H1 pa1 g (w b hb)⟩
theorem pe_hypP {P : Prop} {R : Rel} (h : P → PE X e (tCanP K p c es R c')) : PE X e (fun σ H Q => P ∧ tCanP K p c es R c' σ H Q) := ⟨fun pins s σ H Q I ⟨q, r⟩ => (h q).run pins s σ H Q I r⟩
/-- a if t else b -/
theorem e_ifP {t : Expr} {B : Bool → Prop} {R : Rel} (ht : PT X t (tCanTP K p c es B c')) (ha : B true → PE X a (tCanP K p c' es R c2)) (hb : B false → PE X b (tCanP K p c' es R c2)) : PE X (.IfExp t a b pos) (tCanP K p c es R c2) :=
  pe_imp (pe_ifExp ht (pe_hypP ha) (pe_hypP hb)) fun σ H Q ⟨F0, H0, F, pa, S, k⟩ => ⟨F0, H0, F, pa, S, fun d F1 H1 pa1 g hB => by
    cases d with
    | true => exact ⟨hB, F0, H0, F1, pa1, S.grow g, fun v F2 H2 pa2 g2 r => k v F2 H2 pa2 (g.trans g2) r⟩
    | false => exact ⟨hB, F0, H0, F1, pa1, S.grow g, fun v F2 H2 pa2 g2 r => k v F2 H2 pa2 (g.trans g2) r⟩⟩
end
end Sr
/-! later -/
namespace Sr
open PySem PySem.Spec PyProof.Rows L2 Dl Sb Nd
variable {P : Program} {w : World} {mg : Str → Option Value} {base : Heap} {K : PySem.W.Frag}
structure LatI extends StpI where
  k : Nat
def LatI.Ok (i : LatI) : Prop := (∀ m ∈ i.M, m.ok = true) ∧ i.s.Ok 5 ∧ i.k ≤ 5
/-- a state one step on -/
def Next (i : LatI) (q : Nat × Sta) : Prop := ∃ p : Stp, Can i.s p ∧ After (tabOf i.M i.rs) i.s p q.2 ∧ (q.1 = if p.thr = true then i.k + 1 else i.k) ∧ (p.thr = true → i.k < 5)
def quD (q : Nat × Sta) : PyData := .tuple [nD q.1, staD q.2]
/-- a list that stays, in sight -/
def TrkF (K : PySem.W.Frag) (ds : List PyData) : Rel := fun F _ v => ∃ p vs, v = .ref p ∧ F p = some (.lst vs) ∧ DpAll K F vs ds
instance {ds : List PyData} : PerR (TrkF K ds) := ⟨fun _ _ _ _ _ g ⟨p, vs, e, h, a⟩ => ⟨p, vs, e, g _ _ h, dpAll_mono g _ _ a⟩⟩
theorem _root_.Dl.Sv.frzT {es : List Ent} {F0 H0 F H : Hp} {σ : L2.St} {i : Nat} {ds : List PyData} (h : Sv K es F0 H0 F H σ) (hi : es[i]? = some (.own ds)) : ∃ F', Same F F' ∧ Sv K (es.set i (.is (TrkF K ds))) F0 H0 F' H σ := by
  obtain ⟨p, vs, e1, n0, n, hp, a⟩ := h.ok i _ hi
  have hl : i < es.length := (List.getElem?_eq_some_iff.mp hi).1
  have sf : Same F (upd F p (.lst vs)) := same_new n
  have gk := h.g.keep n0 n hp
  refine ⟨upd F p (.lst vs), sf, h.s0, gk, by rw [List.length_set]; exact h.len, fun j e he => ?_, fun j k ds1 ds2 hn h1 h2 => ?_⟩
  · by_cases hj : i = j
    · subst hj
      rw [List.getElem?_set_self hl] at he
      cases he
      exact ⟨inferInstance, .ref p, e1, p, vs, rfl, upd_same, dpAll_mono sf _ _ a⟩
    · rw [List.getElem?_set_ne hj] at he
      have o := h.ok j e he
      cases e with
      | no => trivial
      | is R =>
        obtain ⟨m, v, e, r⟩ := o
        exact ⟨m, v, e, m.m _ _ _ _ _ sf r⟩
      | own ds2 =>
        obtain ⟨q, us2, e2, m0, m, hq2, a2⟩ := o
        have hne : q ≠ p := fun z => h.df i j _ _ hj hi he (by rw [e1, e2, z])
        exact ⟨q, us2, e2, m0, by rw [upd_ne hne]; exact m, hq2, dpAll_mono sf _ _ a2⟩
  · have other : ∀ {j : Nat} {ds1 : List PyData}, (es.set i (.is (TrkF K ds)))[j]? = some (.own ds1) → es[j]? = some (.own ds1) := fun {j ds1} hj => by
      by_cases hij : i = j
      · subst hij
        rw [List.getElem?_set_self hl] at hj
        cases hj
      · exact own_at hj hij
    exact h.df j k _ _ hn (other h1) (other h2)
theorem ss_frzT {X : Cx} {es : List Ent} {st : List Stmt} {o : Out} (i : Nat) {ds : List PyData} (hi : es[i]? = some (.own ds)) (h : PSs X st (tSt K (es.set i (.is (TrkF K ds))) o)) : PSs X st (tSt K es o) :=
  pss_imp h fun D σ H ⟨F0, H0, F, S, k⟩ => by
    obtain ⟨F', sf, S'⟩ := S.frzT hi
    exact ⟨F0, H0, F', S', k.pre sf⟩
abbrev RLat (K : PySem.W.Frag) (i : LatI) : Rel := fun F H v => ∃ l : List (Nat × Sta), ((∀ q ∈ l, Next i q) ∧ l.length ≤ 60) ∧ TrkF K (l.map quD) F H v
instance {i : LatI} : PerR (RLat K i) := ⟨fun F H F' H' v g ⟨l, h, r⟩ => ⟨l, h, PerR.m F H F' H' v g r⟩⟩
theorem lat_all {i : LatI} {ps : List Stp} {ds : List PyData} (hk : ∀ p ∈ ps, Can i.s p ∧ p.thr = false) (h : AllR (fun p d => ∃ d1, AfterD i.toStpI p d1 ∧ d = .tuple [nD i.k, d1]) ps ds) : ∃ l : List (Nat × Sta), (∀ q ∈ l, Next i q) ∧ l.length = ps.length ∧ ds = l.map quD := by
  induction ps generalizing ds with
  | nil =>
    cases ds with
    | nil => exact ⟨[], fun q h => (nomatch h), rfl, rfl⟩
    | cons _ _ => exact h.elim
  | cons p ps ih =>
    cases ds with
    | nil => exact h.elim
    | cons d ds =>
      obtain ⟨⟨d1, ⟨s', rfl, ha⟩, rfl⟩, h⟩ := h
      obtain ⟨l, q, e1, e2⟩ := ih (fun p hp => hk p (List.mem_cons_of_mem _ hp)) h
      obtain ⟨hc, ht⟩ := hk p List.mem_cons_self
      refine ⟨(i.k, s') :: l, fun q' h' => ?_, by rw [List.length_cons, List.length_cons, e1], by rw [e2]; rfl⟩
      rcases List.mem_cons.mp h' with z | z
      · rw [z]
        exact ⟨p, hc, ha, by rw [if_neg (by rw [ht]; decide)], fun z => by rw [ht] at z; cases z⟩
      · exact q q' z
theorem ts_nil_eq (ts : List Stp) : (!PyData.eqv (.list (ts.map stpD)) (.list [])) = !decide (ts = []) := by cases ts <;> simp [PyData.eqv, PyData.eqvAll]
theorem shd_stp (q : Stp) : Shd 2 (stpD q) := by
  have h1 : Shd 1 (.str "load") := shd_str (by decide +kernel)
  have h2 : Shd 1 (.str "store") := shd_str (by decide +kernel)
  have h3 : Shd 1 (.str "drop") := shd_str (by decide +kernel)
  have h4 : Shd 1 (.str "new") := shd_str (by decide +kernel)
  have h5 : Shd 1 (.str "visit") := shd_str (by decide +kernel)
  have h6 : Shd 1 (.str "scan") := shd_str (by decide +kernel)
  cases q <;> exact shd_tup (by simp [shd_n, shd_o, h1, h2, h3, h4, h5, h6])
theorem pp_frz {X : Cx} {K : PySem.W.Frag} {es : List Ent} {p : Addr} {c : Nat} {st : List Stmt} {o : OutP} (i : Nat) {ds : List PyData} (hi : es[i]? = some (.own ds)) (h : PSs X st (tStP K p c (es.set i (.is (Dat K (.list ds)))) o)) : PSs X st (tStP K p c es o) :=
  pss_imp h fun D σ H ⟨F0, H0, F, pa, S, k⟩ => by
    obtain ⟨F', sf, S'⟩ := S.frz hi
    exact ⟨F0, H0, F', pa, S', k.pre sf⟩
theorem tag_thr (q : Stp) : ([PyData.str "load", .str "store", .str "drop", .str "new"].any fun z => z.eqv (.str (tagS q))) = q.thr := by cases q <;> simp only [tagS, Stp.thr] <;> decide +kernel
theorem stp_head (q : Stp) : ∃ ar, stpD q = .tuple (.str (tagS q) :: ar) := by cases q <;> exact ⟨_, rfl⟩
set_option maxHeartbeats 1000000 in
theorem f_later (B : Bi mg) (D : DefAt K mg "_law_later" s_l_later) (O : FnAt P w K mg base 2 "_law_of" (spOf K)) (FA : FAfter P w K mg base) (FC : FChoices P w K mg base) (FO : FCollects P w K mg base) :
    FnAt P w K mg base 4 "_law_later" (spP K 8 LatI.Ok (fun i => [Dat K (tabD i.M i.rs), Dat K (nD i.k), Dat K (staD i.s)]) (RLat K)) :=
  def_P D S_l_later (fun f fd F => F.binds fun _ _ _ _ _ _ us hl => match us, hl with | [_, _, _, _], _ => rfl) (fun _ => inferInstance) (fun _ => rfl) fun f cdv A outer s0 H E hr ⟨⟨M, rs, s⟩, k⟩ p c hi hc => by
    obtain ⟨hM, ho, hk⟩ := hi
    have hM : ∀ m ∈ M, m.ok = true := hM
    have ho : s.Ok 5 := ho
    have hk : k ≤ 5 := hk
    have hu := hu64 hr
    have hr2 := hr.mono (show 2 ≤ 3 by decide)
    refine pp_to [.is (Is (.ref p)), .is (Dat K (tabD M rs)), .is (Dat K (nD k)), .is (Dat K (staD s)), .no, .no, .no, .no, .no] ?_
    refine pp_cons (s_lift (s_lcG 4 (c := fun _ => true) (enc := stpD) (Pxs := fun ps : List Stp => ps.length ≤ 50 ∧ ∀ p ∈ ps, Can s p ∧ p.thr = false) (Qf := fun q d => ∃ d1, AfterD ⟨M, rs, s⟩ q d1 ∧ d = .tuple [nD k, d1]) (own := [("_law_step", 8)]) rfl S_l_later.nd
      (i_lstG (e_wkG (e_call FO ⟨M, rs, s⟩ ho hr2 (a_cons (e_v 1) (a_cons (e_v 3) a_nil))) (fun d ⟨ps, e, hl, hp⟩ => ⟨ps, ⟨hl, hp⟩, e⟩))) (blkOk_by (N := N_l_later) (sc := defScope s_l_later) (by decide +kernel)) (fun _ _ _ _ _ => pg_name (i := 8) S_l_later.nd rfl (.inl rfl)) (fun _ _ q _ => tg_name 8 _) (by simp)
      (fun _ _ _ _ _ _ _ _ _ => ts_nil)
      (fun ps hps q hq _ _ _ _ _ _ => e_tupG (Rs := [Dat K (nD k), ExD K (AfterD ⟨M, rs, s⟩ q)]) (a_cons (e_v 2) (a_cons (e_call FA ⟨⟨M, rs, s⟩, q⟩ ⟨hM, ho, (hps.2 q hq).1⟩ hr (a_cons (e_v 1) (a_cons (e_v 3) (a_cons (e_v 8) a_nil)))) a_nil)) (by show 2 ≤ 100000; decide) (by
        rintro F H vs sf h
        match vs, h with
        | [x, y], ⟨h1, ⟨d1, hd1, h2⟩, _⟩ => exact ⟨[nD k, d1], ⟨d1, hd1, rfl⟩, .cons h1 (.cons h2 .nil)⟩))
      (fun ps hps => by have := hps.1; omega))) ?_
    rintro c1 e ⟨rfl, ds, ⟨ps, hps, har⟩, rfl⟩
    rw [List.filter_eq_self.mpr fun _ _ => rfl] at har
    obtain ⟨l, hl1, hl2, rfl⟩ := lat_all (i := ⟨⟨M, rs, s⟩, k⟩) hps.2 har
    have hl3 := hps.1
    refine pp_to [.is (Is (.ref p)), .is (Dat K (tabD M rs)), .is (Dat K (nD k)), .is (Dat K (staD s)), .own (l.map quD), .no, .no, .no, .no] ?_
    refine pp_cons (s_lift (s_lcG 5 (c := Stp.thr) (enc := stpD) (Pxs := fun ps : List Stp => ps.length ≤ 2000 ∧ ∀ p ∈ ps, Can s p) (Qf := fun q d => d = stpD q) (own := [("_law_step", 8)]) rfl S_l_later.nd
      (i_lstG (e_wkG (e_call FC ⟨M, rs, s⟩ ho hr2 (a_cons (e_v 1) (a_cons (e_v 3) a_nil))) (fun d ⟨ps, e, hl, hp⟩ => ⟨ps, ⟨hl, hp⟩, e⟩))) (blkOk_by (N := N_l_later) (sc := defScope s_l_later) (by decide +kernel)) (fun _ _ _ _ _ => pg_name (i := 8) S_l_later.nd rfl (.inl rfl)) (fun _ _ q _ => tg_name 8 _) (by simp)
      (fun ps hps q hq _ _ _ _ _ => by
        obtain ⟨ar, har⟩ := stp_head q
        exact ts_one (t_is (t_inT (d := .str (tagS q)) (ds := [.str "load", .str "store", .str "drop", .str "new"]) (hu65 hr) (e_ixT (d := .str (tagS q)) (ds := .str (tagS q) :: ar) (e_is (e_v 8) har) e_int (by decide) rfl) (e_tup (d_cons e_str (d_cons e_str (d_cons e_str (d_cons e_str d_nil))))) (shaped_of (shd_tag q) (by decide)) (by decide +kernel)) (tag_thr q)))
      (fun ps hps q hq _ _ _ _ _ _ => e_toG (e_v 8) rfl)
      (fun ps hps => by have := hps.1; omega))) ?_
    rintro c2 e ⟨rfl, ds, ⟨cs, hcs, har⟩, rfl⟩
    have e2 := allR_eq har
    subst e2
    have hth : ∀ q ∈ cs.filter Stp.thr, Can s q ∧ q.thr = true := fun q hq => ⟨hcs.2 q (List.mem_filter.mp hq).1, (List.mem_filter.mp hq).2⟩
    have hcl : (cs.filter Stp.thr).length ≤ 2000 := Nat.le_trans (List.length_filter_le ..) hcs.1
    generalize cs.filter Stp.thr = ts at hth hcl
    refine pp_to [.is (Is (.ref p)), .is (Dat K (tabD M rs)), .is (Dat K (nD k)), .is (Dat K (staD s)), .own (l.map quD), .own (ts.map stpD), .no, .no, .no] ?_
    refine pp_frz 5 rfl ?_
    refine pp_to [.is (Is (.ref p)), .is (Dat K (tabD M rs)), .is (Dat K (nD k)), .is (Dat K (staD s)), .own (l.map quD), .is (Dat K (.list (ts.map stpD))), .no, .no, .no] ?_
    refine pp_cons (q_forA (k := 2) (n := 4) (α := List (Nat × Sta)) (Pxs := (· = List.range (if (!decide (ts = [])) && decide ((k : Int) < 5) then 4 else 0))) (enc := nD) (js := [6]) (φ := fun x e => e.set 6 (.is (Dat K (nD x))))
      (fun _ _ l => [.is (Is (.ref p)), .is (Dat K (tabD M rs)), .is (Dat K (nD k)), .is (Dat K (staD s)), .own (l.map quD), .is (Dat K (.list (ts.map stpD))), .no, .no, .no]) (fun _ i l => l.length ≤ 50 + i ∧ ∀ q ∈ l, Next ⟨⟨M, rs, s⟩, k⟩ q) rfl
      (i_lift (i_exact (i_range (n := ((if (!decide (ts = [])) && decide ((k : Int) < 5) then 4 else 0 : Nat) : Int)) B.range (d_cons (e_if (c := (!decide (ts = [])) && decide ((k : Int) < 5)) (PW.pt (w_and (t_is (t_ne hu (e_v 5) (e_trk (e_lst d_nil)) (shaped_of (shd_lst (shd_map ts shd_stp)) (by decide)) (shaped_of (n := 1) (shd_lst (by simp)) (by decide)) (nomark _)) (ts_nil_eq ts)) fun _ => w_and1 (t_lt (e_v 2) e_int (nomark _)))) (fun h => e_is e_int (by rw [if_pos h]; rfl)) (fun h => e_is e_int (by rw [h]; rfl))) d_nil) (by split <;> decide) (by split <;> decide))) (Nat.le_refl _)) (pg_name (i := 6) S_l_later.nd rfl (.inl rfl)) (fun _ _ n _ => tg_name 6 _)
      (fun xs hx => ⟨l, ⟨by omega, hl1⟩, WkL.refl _⟩) ?_ (fun xs hx => by rw [hx, List.length_range]; split <;> omega) PassesOwn.never) ?_
    · rintro xs rfl i x l hx ⟨hl, hn⟩
      have hts : ts ≠ [] ∧ k < 5 := by
        by_cases h : (!decide (ts = [])) && decide ((k : Int) < 5)
        · simp at h
          exact ⟨h.1, by omega⟩
        · rw [if_neg h] at hx
          simp at hx
      have hi : i < 4 := by
        have := (List.getElem?_eq_some_iff.mp hx).1
        rw [List.length_range] at this
        split at this <;> omega
      refine pp_to [.is (Is (.ref p)), .is (Dat K (tabD M rs)), .is (Dat K (nD k)), .is (Dat K (staD s)), .own (l.map quD), .is (Dat K (.list (ts.map stpD))), .is (Dat K (nD x)), .no, .no] ?_
      refine pp_cons (q_setE 7 (e_ofG (Pd := fun ds => ∃ ms : List Str, (∀ n, n ∈ ms ↔ n ∈ ts.map tagS) ∧ ms.length ≤ (ts.map tagS).length ∧ ms.Nodup ∧ ds = ms.map PyData.str) O hr2 (e_v 0) (l_newG (e_ssStr (ns := ts.map tagS) rfl hu B.sorted B.set (e_sqdL (e_lsdT (e_trk (e_isL (e_lc0 (own := [("_law_step", 8)]) (enc := stpD) (f := fun q => .str (tagS q)) (xs := ts) rfl S_l_later.nd (i_lst (e_v 5)) (blkOk_by (N := N_l_later) (sc := defScope s_l_later) (by decide +kernel)) (fun _ _ _ _ _ => pg_name (i := 8) S_l_later.nd rfl (.inl rfl)) (fun q _ => tg_name 8 _) (by simp)
          (fun q hq _ _ _ _ _ => by
            obtain ⟨ar, har⟩ := stp_head q
            exact e_ixT (d := .str (tagS q)) (ds := .str (tagS q) :: ar) (e_is (e_v 8) har) e_int (by decide) rfl) (by omega)) (by rw [List.map_map]; rfl))))) (by rw [List.length_map]; omega))) (by
            rintro ds ⟨ms, h1, h2, h3, rfl⟩
            obtain ⟨q, hq⟩ := List.exists_mem_of_ne_nil ts hts.1
            have := List.length_pos_of_mem ((h1 _).mpr (List.mem_map_of_mem hq))
            rw [List.length_map] at h2 ⊢
            omega) (by omega)) S_l_later.nd) ?_
      rintro c6 e ⟨rfl, d, ⟨ds, ⟨ms, hm1, hm2, hm3, rfl⟩, hd⟩, rfl⟩
      obtain ⟨wn, hwn, rfl⟩ := List.mem_map.mp hd
      obtain ⟨q0, hq0, e0⟩ := List.mem_map.mp ((hm1 wn).mp hwn)
      subst e0
      refine pp_to [.is (Is (.ref p)), .is (Dat K (tabD M rs)), .is (Dat K (nD k)), .is (Dat K (staD s)), .own (l.map quD), .is (Dat K (.list (ts.map stpD))), .is (Dat K (nD x)), .is (Dat K (.str (tagS q0))), .no] ?_
      have hfl : (ts.filter fun q => decide (tagS q = tagS q0)).length ≤ 2000 := Nat.le_trans (List.length_filter_le ..) hcl
      have hf0 : 0 < (ts.filter fun q => decide (tagS q = tagS q0)).length := List.length_pos_of_mem (List.mem_filter.mpr ⟨hq0, decide_eq_true rfl⟩)
      refine pp_cons (q_setE 8 (e_of (ds := (ts.filter fun q => decide (tagS q = tagS q0)).map stpD) O hr2 (e_v 0) (l_new (e_lc (own := [("_law_step", 8)]) (enc := stpD) (c := fun q => decide (tagS q = tagS q0)) (f := stpD) (xs := ts) rfl S_l_later.nd (i_lst (e_v 5)) (blkOk_by (N := N_l_later) (sc := defScope s_l_later) (by decide +kernel)) (fun _ _ _ _ _ => pg_name (i := 8) S_l_later.nd rfl (.inl rfl)) (fun q _ => tg_name 8 _) (by simp)
          (fun q hq _ _ _ _ _ => by
            obtain ⟨ar, har⟩ := stp_head q
            exact ts_one (t_is (t_eq hu (e_ixT (d := .str (tagS q)) (ds := .str (tagS q) :: ar) (e_is (e_v 8) har) e_int (by decide) rfl) (e_v 7) (shaped_of (shd_tag q) (by decide)) (shaped_of (shd_tag q0) (by decide)) (nomark _)) (eqv_str _ _)))
          (fun q _ _ _ _ _ _ _ => e_v 8) (by omega))) (by rw [List.length_map]; exact hf0) (by rw [List.length_map]; omega) (by omega)) S_l_later.nd) ?_
      rintro c7 e ⟨rfl, d, hd2, rfl⟩
      obtain ⟨q1, hq1, rfl⟩ := List.mem_map.mp hd2
      have hq2 := (List.mem_filter.mp hq1).1
      refine pp_to [.is (Is (.ref p)), .is (Dat K (tabD M rs)), .is (Dat K (nD k)), .is (Dat K (staD s)), .own (l.map quD), .is (Dat K (.list (ts.map stpD))), .is (Dat K (nD x)), .is (Dat K (.str (tagS q0))), .is (Dat K (stpD q1))] ?_
      refine pp_nx (pp_one (q_app (c' := c2 + i * 2 + 1 + 1) (Pd := fun d => ∃ d1, AfterD ⟨M, rs, s⟩ q1 d1 ∧ d = .tuple [nD (k + 1), d1]) 4 rfl (e_lift (e_tupG (Rs := [Dat K (nD (k + 1)), ExD K (AfterD ⟨M, rs, s⟩ q1)]) (a_cons (e_is (e_add (e_v 2) e_int) (by rfl)) (a_cons (e_call FA ⟨⟨M, rs, s⟩, q1⟩ ⟨hM, ho, (hth q1 hq2).1⟩ hr (a_cons (e_v 1) (a_cons (e_v 3) (a_cons (e_v 8) a_nil)))) a_nil)) (by show 2 ≤ 100000; decide) (by
        rintro F H vs sf h
        match vs, h with
        | [x, y], ⟨h1, ⟨d1, hd1, h2⟩, _⟩ => exact ⟨[nD (k + 1), d1], ⟨d1, hd1, rfl⟩, .cons h1 (.cons h2 .nil)⟩)) (Nat.le_refl _)) (by rw [List.length_map]; omega))) ?_
      rintro c8 e ⟨rfl, d, ⟨d1, ⟨s', rfl, ha⟩, rfl⟩, rfl⟩
      refine ⟨by omega, l ++ [(k + 1, s')], ⟨by rw [List.length_append]; show l.length + 1 ≤ _; omega, fun q h' => ?_⟩, ?_⟩
      · rcases List.mem_append.mp h' with z | z
        · exact hn q z
        · rw [List.mem_singleton.mp z]
          exact ⟨q1, (hth q1 hq2).1, ha, by rw [if_pos (hth q1 hq2).2], fun _ => hts.2⟩
      · rw [List.map_append]
        exact .same (.same (.same (.same (.same (.same (.drop (.drop (.drop .nil))))))))
    · rintro c5 e ⟨rfl, xs, rfl, l', ⟨hl', hn'⟩, w'⟩
      rw [List.length_range] at hl'
      have hl9 : l'.length ≤ 60 := by
        split at hl' <;> omega
      refine pp_pre (Nat.le_refl _) w' ?_
      exact ss_liftR (m := inferInstance) (ss_frzT 4 rfl (ss_rel (ss_one (s_ret (e_v 4))) fun F H v _ r => ⟨l', ⟨hn', hl9⟩, r⟩)) (by omega)
end Sr
/-! sorted(list of marks); all marks -/
namespace Sr
open PySem PySem.Spec PyProof.Rows L2 Dl Sb Nd
variable {P : Program} {w : World} {mg : Str → Option Value} {base : Heap} {K : PySem.W.Frag}
section
variable {X : Cx} {es : List Ent} {a b e : Expr} {pos p2 p3 : Pos}
theorem alike_mk (m n : Mk) : PySem.W.alike (mkD m) (mkD n) = true := Sbx.alike_strs _ _
theorem mk_head (m : Mk) : ∃ x r, mkD m = .tuple (x :: r) := by cases m <;> exact ⟨_, _, rfl⟩
theorem mk_pairs {H : Hp} {s : Shared} {pins : List (Addr × Obj)} {σ : L2.St} (I : Inv X pins σ H s) : ∀ {bs : List (V × Mk)} {its : List Value}, Vals (bs.map (·.1)) its → (∀ b ∈ bs, Dp X.K H b.1 (mkD b.2)) →
    PySem.W.EachIs (fun v (b : V × Mk) => RelV b.1 v) its bs ∧ PySem.W.EachIs (fun v (b : V × Mk) => ∃ as, Reads s.heap v (mkD b.2) as) its bs
  | [], _, .nil, _ => ⟨.nil, .nil⟩
  | b :: bs, _, .cons r t, h => by
    obtain ⟨e1, e2⟩ := mk_pairs I t fun c hc => h c (List.mem_cons_of_mem _ hc)
    exact ⟨.cons r e1, .cons (Dp.reads I _ _ _ (h b List.mem_cons_self) r) e2⟩
theorem vals_each : ∀ {bs : List (V × Mk)} {out : List Value}, PySem.W.EachIs (fun v (b : V × Mk) => RelV b.1 v) out bs → Vals (bs.map (·.1)) out
  | [], _, .nil => .nil
  | b :: bs, _, .cons r t => .cons r (vals_each t)
theorem call_sortedMk (hcalm : X.calm = true) (hu : X.A.units + 64 < cLine) : CallR X (.builtin "sorted") (fun xs H Q => ∃ (l : Addr) (bs : List (V × Mk)), xs = [.ref l] ∧ SqL X.K H l (bs.map (·.1)) ∧ (∀ b ∈ bs, Dp X.K H b.1 (mkD b.2)) ∧ bs.length ≤ 1000 ∧
    ∀ (cs : List (V × Mk)) q, cs.Perm bs → H q = none → Q (.ref q) (upd H q (.lst (cs.map (·.1))))) := by
  intro pins s σ H xs us Q I r q
  obtain ⟨l, bs, rfl, hl, hd, hz, q⟩ := q
  obtain ⟨u, rfl, rx⟩ := vals1 r
  cases rx
  obtain ⟨its, rv, pl, _⟩ := I.list hl
  obtain ⟨e1, e2⟩ := mk_pairs I rv hd
  refine PySem.W.sorted_data (R := fun v (b : V × Mk) => RelV b.1 v) (enc := fun b : V × Mk => mkD b.2) (bs := bs) (vs := its) pl.isList e1 e2 (PySem.W.AllAlike.of fun b c => alike_mk _ _) (PySem.W.Sortable.tuples fun b => mk_head _) (by rw [sizeLine_eq]; omega)
    (fun b _ => by have := (shd_mk b.2).2; show X.A.units + 2 + (mkD b.2).depth < cLine; omega) fun out ho eo => ?_
  obtain ⟨c, hc⟩ := PyProof.Rows.sortedAll_at s.heap its out.toArray
  have pm : (bs.mergeSort (PySem.W.dataLe false fun b : V × Mk => mkD b.2)).Perm bs := List.mergeSort_perm _ _
  generalize bs.mergeSort (PySem.W.dataLe false fun b : V × Mk => mkD b.2) = cs at eo pm
  have hlen : (cs.map (·.1)).length ≤ sizeLine := by rw [List.length_map, pm.length_eq, sizeLine_eq]; omega
  refine ⟨.ref (s.heap.objs.size + 1), upd H (s.heap.objs.size + 1) (.lst (cs.map (·.1))), I.laid (t' := s.toks) (fun b u e => PyProof.Rows.sortedAll_old e) (Nat.le_succ _) ⟨hlen, out, c, vals_each eo, hc⟩, rfl, q cs _ pm (I.hok.fresh (Nat.le_succ _))⟩
theorem dpa_pairs {F : Hp} : ∀ {vs : List V} {ms : List Mk}, DpAll K F vs (ms.map mkD) → ∃ bs : List (V × Mk), bs.map (·.1) = vs ∧ bs.map (·.2) = ms ∧ ∀ b ∈ bs, Dp K F b.1 (mkD b.2)
  | _, [], h => by
    have h' : DpAll K F _ [] := h
    cases h'
    exact ⟨[], rfl, rfl, fun b hb => (nomatch hb)⟩
  | _, m :: ms, h => by
    have h' : DpAll K F _ (mkD m :: ms.map mkD) := h
    cases h' with
    | cons h1 h2 =>
      obtain ⟨bs, rfl, rfl, q⟩ := dpa_pairs h2
      refine ⟨(_, m) :: bs, rfl, rfl, fun b hb => ?_⟩
      rcases List.mem_cons.mp hb with z | z
      · rw [z]; exact h1
      · exact q b z
theorem pairs_dpa {F : Hp} : ∀ {bs : List (V × Mk)}, (∀ b ∈ bs, Dp K F b.1 (mkD b.2)) → DpAll K F (bs.map (·.1)) ((bs.map (·.2)).map mkD)
  | [], _ => .nil
  | b :: bs, h => .cons (h b List.mem_cons_self) (pairs_dpa fun c hc => h c (List.mem_cons_of_mem _ hc))
theorem e_sortedMk {ms : List Mk} (hcalm : X.calm = true) (hu : X.A.units + 64 < cLine) (hm : X.mg "sorted" = none) (h : PE X e (tCan X.K es (Lsd X.K (ms.map mkD)))) (hz : ms.length ≤ 1000) (hg : Gl X "sorted" := by rfl) (he : starEach [e] X.env = (false, eval e X.env) :: starEach [] X.env := by rfl) :
    PE X (.Call (.Name "sorted" p2) [e] [] pos) (tCanL X.K es (fun ds => ∃ ms' : List Mk, ms'.Perm ms ∧ ds = ms'.map mkD)) :=
  pe_imp (pe_callB (call_sortedMk hcalm hu) hg hm boot_sorted (pa_cons h pa_nil he) (he := he)) (can1L fun x F H Q s ⟨p, vs, e, hs, ha⟩ k => by
    obtain ⟨bs, rfl, rfl, hb⟩ := dpa_pairs ha
    refine ⟨p, bs, by rw [e], hs, fun b hb' => dp_mono s _ _ (hb b hb'), by rw [List.length_map] at hz; exact hz, fun cs q pm n => ?_⟩
    exact new_at (Grow.refl s) ⟨cs.map (·.2), pm.map _, rfl⟩ (pairs_dpa fun c hc => hb c (pm.mem_iff.mp hc)) k q n)
end
theorem flat_if {d : PyData} (c : Bool) : (List.replicate (if c then (1 : Int) else 0).toNat [d]).flatten = if c then [d] else [] := by cases c <;> rfl
def whos (h : C) (o n : Option C) : List Who := (if !decide (h = .grey) then [.holder] else []) ++ (if decide (n = some .white) then [.new] else []) ++ (if decide (o = some .white) then [.old] else [])
theorem whos_ok {k : Bool} {h : C} {o n : Option C} : ∀ x ∈ whos h o n, Mk.ok (.so k h o n x) = true := by
  intro x hx
  unfold whos at hx
  cases x <;> simp [Mk.ok] at hx ⊢ <;> first | exact hx | (cases h <;> simp at hx ⊢)
theorem whos_len (h : C) (o n : Option C) : (whos h o n).length ≤ 3 := by
  unfold whos
  simp only [List.length_append]
  split <;> split <;> split <;> simp
theorem sh_s {x : Str} (h : PyData.strOk x = true) : SeqAt.shaped (.str x) = true := shaped_of (shd_str h) (by decide)
theorem shd_oc (o : Option C) : Shd 1 (.str (ocS o)) := shd_str (by cases o with | none => decide +kernel | some c => cases c <;> decide +kernel)
theorem whos_eq (h : C) (o n : Option C) : (whos h o n).map (fun x => PyData.str (whoS x)) = (((if (!decide (cS h = "grey")) = true then [PyData.str "holder"] else []) ++ if decide (ocS n = "white") = true then [PyData.str "new"] else []) ++ if decide (ocS o = "white") = true then [PyData.str "old"] else []) := by
  rcases o with _ | o <;> rcases n with _ | n
  · cases h <;> rfl
  · cases h <;> cases n <;> rfl
  · cases h <;> cases o <;> rfl
  · cases h <;> cases o <;> cases n <;> rfl
set_option maxHeartbeats 1000000 in
theorem f_marks (B : Bi mg) (D : DefAt K mg "_law_marks" s_l_marks) : FMarks P w K mg base :=
  def_D D S_l_marks (fun f fd F => F.binds fun _ _ _ _ _ _ us hl => match us, hl with | [], _ => rfl) (fun _ => inferInstance) (fun _ => rfl) fun f cdv A outer s0 H E hr _ _ => by
    have hu := hu64 hr
    refine ss_cons (s_setL1 0 (e_lst d_nil) S_l_marks.nd) ?_
    rintro e rfl
    refine ss_to [.own [], .no, .no, .no, .no, .no, .no, .no] ?_
    refine ss_cons (s_forA (α := List Mk) (enc := fun k => PyData.str (kS k)) (xs := [true, false]) (js := [1]) (φ := fun x e => e.set 1 (.is (Dat K (.str (kS x))))) (fun _ M => [.own (M.map mkD), .no, .no, .no, .no, .no, .no, .no])
      (fun i M => (∀ m ∈ M, m.ok = true) ∧ i ≤ M.length ∧ M.length ≤ i * 148) [] rfl (i_tup (e_tup (d_cons e_str (d_cons e_str d_nil)))) (pg_name (i := 1) S_l_marks.nd rfl (.inr rfl)) (fun _ _ => tg_name 1 _) (WkL.refl _) ⟨fun m h => (nomatch h), Nat.le_refl _, Nat.le_refl _⟩ ?_ PassesOwn.never) ?_
    · intro i k M hk ⟨hM, hi0, hl⟩
      have hi : i < 2 := (List.getElem?_eq_some_iff.mp hk).1
      refine ss_to [.own (M.map mkD), .is (Dat K (.str (kS k))), .no, .no, .no, .no, .no, .no] ?_
      refine ss_cons (s_app 0 rfl (e_tup (d_cons e_str (d_cons (e_v 1) d_nil))) (by rw [List.length_map]; omega)) ?_
      rintro e rfl
      refine ss_to [.own ((M ++ [Mk.nw k]).map mkD), .is (Dat K (.str (kS k))), .no, .no, .no, .no, .no, .no] ?_ (by simp only [List.map_append, List.map_map]; rfl)
      refine ss_cons (s_ext 0 (ds' := [C.black, .grey, .white].map fun c => mkD (.ld k c)) rfl (e_trk (e_lc0 (enc := cD) (f := fun c => mkD (.ld k c)) (own := [("_law_colour", 6)]) (xs := [C.black, .grey, .white]) rfl S_l_marks.nd (i_tup (e_tup (d_cons e_str (d_cons e_str (d_cons e_str d_nil)))))
        (blkOk_by (N := N_l_marks) (sc := defScope s_l_marks) (by decide +kernel)) (fun _ _ _ _ _ => pg_name (i := 6) S_l_marks.nd rfl (.inl rfl)) (fun x _ => tg_name 6 _) (by simp) (fun x _ _ _ _ _ _ => e_is (e_tup (ds := [.str "load", .str (kS k), cD x]) (d_cons e_str (d_cons (e_v 1) (d_cons (e_v 6) d_nil)))) rfl) (by decide))) (by simp only [List.length_map, List.length_append, List.length_cons, List.length_nil]; omega)) ?_
      rintro e rfl
      refine ss_to [.own ((M ++ [Mk.nw k] ++ [C.black, .grey, .white].map fun c => Mk.ld k c).map mkD), .is (Dat K (.str (kS k))), .no, .no, .no, .no, .no, .no] ?_ (by simp only [List.map_append, List.map_map]; rfl)
      have hM1 : (∀ m ∈ M ++ [Mk.nw k] ++ [C.black, .grey, .white].map (fun c => Mk.ld k c), m.ok = true) := fun m hm => by
        simp only [List.mem_append, List.mem_map, List.mem_singleton] at hm
        rcases hm with (hm | rfl) | ⟨c, _, rfl⟩
        · exact hM m hm
        · rfl
        · rfl
      have hl0 : i + 1 ≤ (M ++ [Mk.nw k] ++ [C.black, .grey, .white].map (fun c => Mk.ld k c)).length := by simp only [List.length_map, List.length_append, List.length_cons, List.length_nil]; omega
      have hl1 : (M ++ [Mk.nw k] ++ [C.black, .grey, .white].map (fun c => Mk.ld k c)).length ≤ i * 148 + 4 := by simp only [List.length_map, List.length_append, List.length_cons, List.length_nil]; omega
      generalize M ++ [Mk.nw k] ++ [C.black, .grey, .white].map (fun c => Mk.ld k c) = M1 at hM1 hl0 hl1 ⊢
      clear hM hl
      refine ss_nx (ss_one (s_forA (α := List Mk) (enc := cD) (xs := [C.black, .grey, .white]) (js := [2]) (φ := fun x e => e.set 2 (.is (Dat K (cD x)))) (fun _ M => [.own (M.map mkD), .is (Dat K (.str (kS k))), .no, .no, .no, .no, .no, .no])
        (fun j M => (∀ m ∈ M, m.ok = true) ∧ i + 1 ≤ M.length ∧ M.length ≤ i * 148 + 4 + j * 48) M1 rfl (i_tup (e_tup (d_cons e_str (d_cons e_str (d_cons e_str d_nil))))) (pg_name (i := 2) S_l_marks.nd rfl (.inr rfl)) (fun _ _ => tg_name 2 _) (WkL.refl _) ⟨hM1, hl0, by omega⟩ ?_ PassesOwn.never)) ?_
      · clear hM1 hl0 hl1 M1
        intro j h M hh ⟨hM, hl0, hl⟩
        have hj : j < 3 := (List.getElem?_eq_some_iff.mp hh).1
        refine ss_to [.own (M.map mkD), .is (Dat K (.str (kS k))), .is (Dat K (cD h)), .no, .no, .no, .no, .no] ?_
        refine ss_nx (ss_one (s_forA (α := List Mk) (enc := fun o => PyData.str (ocS o)) (xs := [some C.black, some C.grey, none, some C.white]) (js := [3]) (φ := fun x e => e.set 3 (.is (Dat K (.str (ocS x))))) (fun _ M => [.own (M.map mkD), .is (Dat K (.str (kS k))), .is (Dat K (cD h)), .no, .no, .no, .no, .no])
          (fun a M => (∀ m ∈ M, m.ok = true) ∧ i + 1 ≤ M.length ∧ M.length ≤ i * 148 + 4 + j * 48 + a * 12) M rfl (i_tup (e_tup (d_cons e_str (d_cons e_str (d_cons e_str (d_cons e_str d_nil)))))) (pg_name (i := 3) S_l_marks.nd rfl (.inr rfl)) (fun _ _ => tg_name 3 _) (WkL.refl _) ⟨hM, hl0, by omega⟩ ?_ PassesOwn.never)) ?_
        · clear hM hl0 hl M
          intro a o M ha ⟨hM, hl0, hl⟩
          have ha4 : a < 4 := (List.getElem?_eq_some_iff.mp ha).1
          refine ss_to [.own (M.map mkD), .is (Dat K (.str (kS k))), .is (Dat K (cD h)), .is (Dat K (.str (ocS o))), .no, .no, .no, .no] ?_
          refine ss_nx (ss_one (s_forA (α := List Mk) (enc := fun o => PyData.str (ocS o)) (xs := [some C.black, some C.grey, none, some C.white]) (js := [4]) (φ := fun x e => e.set 4 (.is (Dat K (.str (ocS x))))) (fun _ M => [.own (M.map mkD), .is (Dat K (.str (kS k))), .is (Dat K (cD h)), .is (Dat K (.str (ocS o))), .no, .no, .no, .no])
            (fun b M => (∀ m ∈ M, m.ok = true) ∧ i + 1 ≤ M.length ∧ M.length ≤ i * 148 + 4 + j * 48 + a * 12 + b * 3) M rfl (i_tup (e_tup (d_cons e_str (d_cons e_str (d_cons e_str (d_cons e_str d_nil)))))) (pg_name (i := 4) S_l_marks.nd rfl (.inr rfl)) (fun _ _ => tg_name 4 _) (WkL.refl _) ⟨hM, hl0, by omega⟩ ?_ PassesOwn.never)) ?_
          · clear hM hl0 hl M
            intro b n M hb ⟨hM, hl0, hl⟩
            have hb4 : b < 4 := (List.getElem?_eq_some_iff.mp hb).1
            refine ss_to [.own (M.map mkD), .is (Dat K (.str (kS k))), .is (Dat K (cD h)), .is (Dat K (.str (ocS o))), .is (Dat K (.str (ocS n))), .no, .no, .no] ?_
            refine ss_cons (s_setL1 5 (e_catL (e_trk (e_rep (e_trk (e_lst (d_cons e_str d_nil))) (e_intB (c := !decide (cS h = "grey")) B.int (e_is (e_ne hu (e_v 2) e_str (shaped_of (shd_c h) (by decide)) (sh_s (by decide +kernel)) (nomark _)) (by rw [← eqv_str]; rfl))) (by split <;> decide) (by split <;> decide) (by split <;> decide)))
              (e_trk (e_rep (e_trk (e_lst (d_cons e_str d_nil))) (e_intB (c := decide (ocS n = "white")) B.int (e_is (e_eq hu (e_v 4) e_str (shaped_of (shd_oc n) (by decide)) (sh_s (by decide +kernel)) (nomark _)) (by rw [eqv_str]))) (by split <;> decide) (by split <;> decide) (by split <;> decide))) (by rw [flat_if, flat_if]; split <;> split <;> decide)) S_l_marks.nd) ?_
            rintro e rfl
            rw [flat_if, flat_if]
            refine ss_to [.own (M.map mkD), .is (Dat K (.str (kS k))), .is (Dat K (cD h)), .is (Dat K (.str (ocS o))), .is (Dat K (.str (ocS n))), .own _, .no, .no] ?_
            refine ss_cons (s_setL1 5 (e_catL (e_o 5) (e_trk (e_rep (e_trk (e_lst (d_cons e_str d_nil))) (e_intB (c := decide (ocS o = "white")) B.int (e_is (e_eq hu (e_v 3) e_str (shaped_of (shd_oc o) (by decide)) (sh_s (by decide +kernel)) (nomark _)) (by rw [eqv_str]))) (by split <;> decide) (by split <;> decide) (by split <;> decide))) (by rw [flat_if]; split <;> split <;> split <;> decide)) S_l_marks.nd) ?_
            rintro e rfl
            rw [flat_if]
            refine ss_to [.own (M.map mkD), .is (Dat K (.str (kS k))), .is (Dat K (cD h)), .is (Dat K (.str (ocS o))), .is (Dat K (.str (ocS n))), .own ((whos h o n).map fun x => .str (whoS x)), .no, .no] ?_ (by
              rw [whos_eq]; rfl)
            refine ss_frz 5 rfl ?_
            refine ss_to [.own (M.map mkD), .is (Dat K (.str (kS k))), .is (Dat K (cD h)), .is (Dat K (.str (ocS o))), .is (Dat K (.str (ocS n))), .is (Dat K (.list ((whos h o n).map fun x => .str (whoS x)))), .no, .no] ?_
            have hw := whos_len h o n
            refine ss_end (ss_one (s_ext 0 (ds' := (whos h o n).map fun x => mkD (.so k h o n x)) rfl (e_trk (e_lc0 (enc := fun x => PyData.str (whoS x)) (f := fun x => mkD (.so k h o n x)) (own := [("_law_who", 7)]) (xs := whos h o n) rfl S_l_marks.nd (i_lst (e_v 5))
              (blkOk_by (N := N_l_marks) (sc := defScope s_l_marks) (by decide +kernel)) (fun _ _ _ _ _ => pg_name (i := 7) S_l_marks.nd rfl (.inl rfl)) (fun x _ => tg_name 7 _) (by simp) (fun x _ _ _ _ _ _ => e_is (e_tup (ds := [.str "store", .str (kS k), cD h, .str (ocS o), .str (ocS n), .str (whoS x)]) (d_cons e_str (d_cons (e_v 1) (d_cons (e_v 2) (d_cons (e_v 3) (d_cons (e_v 4) (d_cons (e_v 7) d_nil))))))) rfl) (by omega))) (by simp only [List.length_map]; omega))) ⟨M ++ (whos h o n).map fun x => .so k h o n x, ⟨fun m hm => ?_, by rw [List.length_append]; omega, ?_⟩, ?_⟩
            · rcases List.mem_append.mp hm with z | z
              · exact hM m z
              · obtain ⟨x, hx, rfl⟩ := List.mem_map.mp z
                exact whos_ok x hx
            · rw [List.length_append, List.length_map]; omega
            · rw [List.map_append, List.map_map]
              exact .same (.same (.same (.same (.drop (.drop (.same (.same .nil)))))))
          · rintro e ⟨M', ⟨h1, h0, h2⟩, w⟩
            exact ⟨M', ⟨h1, h0, by have h2 : M'.length ≤ _ + 4 * 3 := h2; omega⟩, w.trans (.same (.same (.same (.drop (.same (.same (.same (.same .nil))))))))⟩
        · rintro e ⟨M', ⟨h1, h0, h2⟩, w⟩
          exact ⟨M', ⟨h1, h0, by have h2 : M'.length ≤ _ + 4 * 12 := h2; omega⟩, w.trans (.same (.same (.drop (.same (.same (.same (.same (.same .nil))))))))⟩
      · rintro e ⟨M', ⟨h1, h0, h2⟩, w⟩
        exact ⟨M', ⟨h1, h0, by have h2 : M'.length ≤ _ + 3 * 48 := h2; omega⟩, w.trans (.same (.drop (.same (.same (.same (.same (.same (.same .nil))))))))⟩
    rintro e ⟨M, ⟨hM, hl0, hl⟩, w⟩
    have hl0 : 2 ≤ M.length := hl0
    have hl : M.length ≤ 2 * 148 := hl
    refine ss_pre w ?_
    refine ss_to [.own (M.map mkD), .no, .no, .no, .no, .no, .no, .no] ?_
    refine ss_one (s_ret (e_wkG (e_exL (e_sortedMk rfl hu B.sorted (e_lsdT (e_o 0)) (by omega))) ?_))
    rintro d ⟨ds, rfl, ms, pm, rfl⟩
    exact ⟨ms, ⟨⟨fun m hm => hM m (pm.mem_iff.mp hm), by rw [pm.length_eq]; omega⟩, by rw [pm.length_eq]; omega⟩, rfl⟩
end Sr
/-! the calculus beside one dict: texts to lists of lists of marks -/
namespace Sr
open PySem PySem.Spec PyProof.Rows L2 Dl Sb Nd
variable {P : Program} {w : World} {mg : Str → Option Value} {base : Heap} {K : PySem.W.Frag}
def glD (ls : List (List Mk)) : PyData := .list (ls.map fun l => .list (l.map mkD))
def GLs (ls : List (List Mk)) : Prop := ls.length ≤ 8 ∧ ∀ l ∈ ls, 0 < l.length ∧ l.length ≤ 8 ∧ ∀ m ∈ l, m.ok = true
/-- a dict's rows: keys ks, at each what look says -/
structure Grp (K : PySem.W.Frag) (F : Hp) (ks : List Str) (look : Str → List (List Mk)) (kvs : List (Key × V)) : Prop where
  keys : kvs.map (·.1) = ks.map Sum.inr
  val : ∀ k ∈ ks, ∃ v, valV kvs (.inr k) = some v ∧ Dp K F v (glD (look k))
structure GOk (n t : Nat) (ks : List Str) (look : Str → List (List Mk)) : Prop where
  nd : ks.Nodup
  few : ks.length ≤ n
  sum : (ks.map fun k => (look k).length).sum ≤ t
  ok : ∀ k ∈ ks, GLs (look k)
theorem Grp.mono {F F' : Hp} {ks : List Str} {look : Str → List (List Mk)} {kvs : List (Key × V)} (h : Grp K F ks look kvs) (s : Same F F') : Grp K F' ks look kvs :=
  ⟨h.keys, fun k hk => let ⟨v, e, d⟩ := h.val k hk; ⟨v, e, dp_mono s _ _ d⟩⟩
theorem GOk.mono {n t n' t' : Nat} {ks : List Str} {look : Str → List (List Mk)} (h : GOk n t ks look) (l : n ≤ n') (l' : t ≤ t') : GOk n' t' ks look := ⟨h.nd, Nat.le_trans h.few l, Nat.le_trans h.sum l', h.ok⟩
theorem keys_putK {κ : Type} [DecidableEq κ] (kvs : List (κ × V)) (k : κ) (v : V) : (putK kvs k v).map (·.1) = if k ∈ kvs.map (·.1) then kvs.map (·.1) else kvs.map (·.1) ++ [k] := by
  unfold putK
  have e : ((kvs.any fun kv => decide (kv.1 = k)) = true) ↔ k ∈ kvs.map (·.1) := by
    rw [List.any_eq_true, List.mem_map]
    exact ⟨fun ⟨x, hx, q⟩ => ⟨x, hx, of_decide_eq_true q⟩, fun ⟨x, hx, q⟩ => ⟨x, hx, decide_eq_true q⟩⟩
  by_cases h : k ∈ kvs.map (·.1)
  · rw [if_pos (e.mpr h), if_pos h, List.map_map]
    exact List.map_congr_left fun x _ => by
      show (if x.1 = k then (x.1, v) else x).1 = x.1
      split <;> rfl
  · rw [if_neg fun z => h (e.mp z), if_neg h, List.map_append]
    rfl
def putL (look : Str → List (List Mk)) (k : Str) (ls : List (List Mk)) : Str → List (List Mk) := fun j => if j = k then ls else look j
def putS (ks : List Str) (k : Str) : List Str := if k ∈ ks then ks else ks ++ [k]
theorem sum_put (look : Str → List (List Mk)) (k : Str) (ls : List (List Mk)) : ∀ ks : List Str, ks.Nodup → (ks.map fun j => (putL look k ls j).length).sum ≤ (ks.map fun j => (look j).length).sum + ls.length
  | [], _ => Nat.zero_le _
  | a :: r, h => by
    rw [List.nodup_cons] at h
    rw [List.map_cons, List.map_cons, List.sum_cons, List.sum_cons]
    by_cases e : a = k
    · have er : (r.map fun j => (putL look k ls j).length) = r.map fun j => (look j).length := List.map_congr_left fun j hj => by
        unfold putL
        rw [if_neg fun z => h.1 (by rw [e, ← z]; exact hj)]
      have ea : putL look k ls a = ls := if_pos e
      rw [er, ea]
      omega
    · have ih := sum_put look k ls r h.2
      have ea : putL look k ls a = look a := if_neg e
      rw [ea]
      omega
theorem inr_mem {k : Str} {ks : List Str} : (Sum.inr k : Key) ∈ ks.map Sum.inr ↔ k ∈ ks := by
  rw [List.mem_map]
  exact ⟨fun ⟨x, hx, e⟩ => by cases e; exact hx, fun h => ⟨k, h, rfl⟩⟩
theorem Grp.put {F : Hp} {ks : List Str} {look : Str → List (List Mk)} {kvs : List (Key × V)} (h : Grp K F ks look kvs) (k : Str) {ls : List (List Mk)} {v : V} (hv : Dp K F v (glD ls)) : Grp K F (putS ks k) (putL look k ls) (putK kvs (.inr k) v) := by
  refine ⟨?_, fun j hj => ?_⟩
  · rw [keys_putK, h.keys]
    unfold putS
    by_cases e : k ∈ ks
    · rw [if_pos (inr_mem.mpr e), if_pos e]
    · rw [if_neg fun z => e (inr_mem.mp z), if_neg e, List.map_append]
      rfl
  · rw [valV_put]
    unfold putL
    by_cases e : j = k
    · rw [if_pos (congrArg Sum.inr e), if_pos e]
      exact ⟨v, rfl, hv⟩
    · rw [if_neg fun z => e (Sum.inr.inj z), if_neg e]
      unfold putS at hj
      refine h.val j ?_
      split at hj
      · exact hj
      · rcases List.mem_append.mp hj with z | z
        · exact z
        · exact absurd (List.mem_singleton.mp z) e
theorem GOk.put {n t : Nat} {ks : List Str} {look : Str → List (List Mk)} (h : GOk n t ks look) (k : Str) {ls : List (List Mk)} (hls : GLs ls) : GOk (n + 1) (t + ls.length) (putS ks k) (putL look k ls) := by
  have hok : ∀ j ∈ ks, GLs (putL look k ls j) := fun j hj => by
    unfold putL
    split
    · exact hls
    · exact h.ok j hj
  unfold putS
  by_cases e : k ∈ ks
  · rw [if_pos e]
    refine ⟨h.nd, Nat.le_succ_of_le h.few, ?_, hok⟩
    have := sum_put look k ls ks h.nd
    have := h.sum
    omega
  · rw [if_neg e]
    refine ⟨?_, ?_, ?_, fun j hj => ?_⟩
    · exact List.nodup_append.mpr ⟨h.nd, by simp, fun a ha b hb z => e (by rw [← List.mem_singleton.mp hb, ← z]; exact ha)⟩
    · rw [List.length_append, List.length_singleton]
      have := h.few
      omega
    · have er : (ks.map fun j => (putL look k ls j).length) = ks.map fun j => (look j).length := List.map_congr_left fun j hj => by
        unfold putL
        rw [if_neg fun z => e (by rw [← z]; exact hj)]
      have ek : putL look k ls k = ls := if_pos rfl
      rw [List.map_append, List.sum_append, er, List.map_cons, List.map_nil, List.sum_cons, List.sum_nil, ek]
      have := h.sum
      omega
    · rcases List.mem_append.mp hj with z | z
      · exact hok j z
      · rw [List.mem_singleton.mp z, show putL look k ls k = ls from if_pos rfl]
        exact hls
/-! ### judgements -/
def GAt (K : PySem.W.Frag) (F : Hp) (q : Addr) (n t : Nat) (H : Hp) : Prop := ∃ kvs ks look, H q = some (.dK kvs) ∧ Grp K F ks look kvs ∧ GOk n t ks look
theorem GAt.mono {F F' H H' : Hp} {q : Addr} {n t n' t' : Nat} (h : GAt K F q n t H) (s : Same F F') (e : H' q = H q) (l : n ≤ n' := by omega) (l' : t ≤ t' := by omega) : GAt K F' q n' t' H' :=
  let ⟨kvs, ks, look, hq, g, o⟩ := h
  ⟨kvs, ks, look, by rw [e]; exact hq, g.mono s, o.mono l l'⟩
theorem GAt.some {F H : Hp} {q : Addr} {n t : Nat} (h : GAt K F q n t H) : H q ≠ none := by
  obtain ⟨_, _, _, e, _⟩ := h
  rw [e]
  exact fun z => by cases z
inductive OutG where
  | nx (P : Nat → Nat → List Ent → Prop)
  | rt (R : Rel)
def OutG.k (K : PySem.W.Frag) (q : Addr) (F0 H0 F1 : Hp) (D : Ends) : OutG → Prop
  | .nx P => ∀ n t es σ F H, P n t es → Same F1 F → GAt K F q n t H → Sv K es F0 H0 F (wo q H) σ → D.nx σ H
  | .rt R => ∀ v F H, Grow F0 H0 F H → R F H v → D.rt v H
def tStG (K : PySem.W.Frag) (q : Addr) (n t : Nat) (es : List Ent) (o : OutG) : TS := fun D σ H => ∃ F0 H0 F, GAt K F q n t H ∧ Sv K es F0 H0 F (wo q H) σ ∧ o.k K q F0 H0 F D
theorem OutG.k.pre {q : Addr} {F0 H0 F1 F2 : Hp} {D : Ends} {o : OutG} (h : o.k K q F0 H0 F1 D) (s : Same F1 F2) : o.k K q F0 H0 F2 D := by
  cases o with
  | nx P => exact fun n t es σ F H p s2 S => h n t es σ F H p (s.trans s2) S
  | rt R => exact h
section
variable {X : Cx} {es : List Ent} {a b e d : Expr} {pos p2 p3 : Pos} {q : Addr} {n t : Nat}
theorem g_nil : PSs X [] (tStG K q n t es (.nx fun n' t' e => n' = n ∧ t' = t ∧ e = es)) := pss_imp pss_nil fun D σ H ⟨F0, H0, F, ga, S, k⟩ => k n t es σ F H ⟨rfl, rfl, rfl⟩ (Same.refl F) ga S
theorem g_cons {st : Stmt} {r : List Stmt} {P : Nat → Nat → List Ent → Prop} {o : OutG} (h1 : PS X st (tStG K q n t es (.nx P))) (h2 : ∀ n t e, P n t e → PSs X r (tStG K q n t e o)) : PSs X (st :: r) (tStG K q n t es o) :=
  pss_imp (pss_cons h1 (pss_hyp (ι := Nat × Nat × List Ent) (C := fun x => P x.1 x.2.1 x.2.2) (t := fun x => tStG K q x.1 x.2.1 x.2.2 o) fun x hx => h2 x.1 x.2.1 x.2.2 hx)) fun D σ H ⟨F0, H0, F, ga, S, k⟩ => ⟨F0, H0, F, ga, S, fun n' t' es' σ' F' H' pe sf ga' S' => ⟨(n', t', es'), pe, F0, H0, F', ga', S', k.pre sf⟩⟩
theorem g_one {st : Stmt} {o : OutG} (h : PS X st (tStG K q n t es o)) : PSs X [st] (tStG K q n t es o) := pss_one h
theorem g_nx {st : List Stmt} {P P' : Nat → Nat → List Ent → Prop} (h : PSs X st (tStG K q n t es (.nx P))) (w : ∀ n t e, P n t e → P' n t e) : PSs X st (tStG K q n t es (.nx P')) :=
  pss_imp h fun D σ H ⟨F0, H0, F, ga, S, k⟩ => ⟨F0, H0, F, ga, S, fun n' t' e σ' F' H' pe => k n' t' e σ' F' H' (w n' t' e pe)⟩
theorem g_pre {st : List Stmt} {es' : List Ent} {n' t' : Nat} {o : OutG} (l : n ≤ n') (l' : t ≤ t') (w : WkL es es') (h : PSs X st (tStG K q n' t' es' o)) : PSs X st (tStG K q n t es o) :=
  pss_imp h fun D σ H ⟨F0, H0, F, ga, S, k⟩ => ⟨F0, H0, F, ga.mono (Same.refl F) rfl l l', S.wk w.wk, k⟩
theorem g_to {st : List Stmt} {o : OutG} (es' : List Ent) (h : PSs X st (tStG K q n t es' o)) (x : es = es' := by rfl) : PSs X st (tStG K q n t es o) := x ▸ h
theorem g_lift {st : Stmt} {P : List Ent → Prop} (h : PS X st (tSt K es (.nx P))) : PS X st (tStG K q n t es (.nx fun n' t' e => n' = n ∧ t' = t ∧ P e)) :=
  ps_imp h fun D σ H ⟨F0, H0, F, ga, S, k⟩ => ⟨F0, withP q H0 H, F, S.held, fun e σ' F' H' pe sf S' => by
    obtain ⟨S2, eq⟩ := S'.back S.h0 ga.some S.f0 S.s0
    exact k n t e σ' F' H' ⟨rfl, rfl, pe⟩ sf (ga.mono sf eq) S2⟩
/-- found[k] = lists -/
theorem g_put {pos' : Pos} {k : Str} {ls : List (List Mk)} (hu : X.A.units + 1 < cLine) (hd : PE X d (tCan K es (Is (.ref q)))) (hk : PE X a (tCan K es (Dat K (.str k)))) (hv : PE X b (tCan K es (Dat K (glD ls)))) (hls : GLs ls) (hn : n < 1000)
    (hs : swapsWith b (some (.Subscript d a pos')) pos.line X.env = pure false := by rfl) : PS X (.Assign [.Subscript d a pos'] b pos) (tStG K q n t es (.nx fun n' t' e => n' = n + 1 ∧ t' = t + ls.length ∧ e = es)) :=
  ps_imp (ps_dput hu hd hk hv hs) fun D σ H ⟨F0, H0, F, ga, S, kk⟩ => by
    refine ⟨F0, withP q H0 H, F, S.held, fun v F1 H1 g1 r1 => ⟨F0, withP q H0 H, F1, S.held.grow g1, fun x F2 H2 g2 r2 => ⟨F0, withP q H0 H, F2, (S.held.grow g1).grow g2, fun y F3 H3 g3 r3 => ?_⟩⟩⟩
    have r2 : x = .ref q := r2
    have r3 := dat_str r3
    subst r2
    subst r3
    obtain ⟨S3, eq⟩ := (((S.held.grow g1).grow g2).grow g3).back S.h0 ga.some S.f0 S.s0
    have ga3 := ga.mono ((g1.ff.trans g2.ff).trans g3.ff) eq (Nat.le_refl _) (Nat.le_refl _)
    obtain ⟨kvs, ks, look, hq, gr, go⟩ := ga3
    have hlen : kvs.length = ks.length := by
      have := congrArg List.length gr.keys
      rwa [List.length_map, List.length_map] at this
    have hlt : kvs.length < sizeLine := by
      have := go.few
      rw [sizeLine_eq]
      omega
    refine ⟨q, _, rfl, DPut.k (k := .inr k) hq hlt, ?_⟩
    refine kk (n + 1) (t + ls.length) es σ F3 _ ⟨rfl, rfl, rfl⟩ ((g1.ff.trans g2.ff).trans g3.ff) ⟨_, _, _, upd_same, gr.put k (dp_mono (g2.ff.trans g3.ff) _ _ r1), go.put k hls⟩ ?_
    have ew : wo q (upd H3 q (.dK (putK kvs (.inr k) v))) = wo q H3 := funext fun b => by
      by_cases h : b = q
      · rw [h, wo_self, wo_self]
      · rw [wo_ne h, wo_ne h, upd_ne h]
    rw [ew]
    exact S3
section
variable {ι : Type} {xs : List ι} {enc : ι → PyData} {tg iter : Expr} {body : List Stmt} {g : TG} {φ : ι → List Ent → List Ent} {js : List Nat} {dn dt : Nat}
theorem g_for (E : List Ent) (hc : X.calm = true) (hi : PI X tg iter (tCanI X.K es (xs.map enc))) (hg : PG X tg g) (ht : ∀ x ∈ xs, Tg X.K g (enc x) (φ x) js) (h0 : WkL es E)
    (hb : ∀ i x, xs[i]? = some x → PSs X body (tStG X.K q (n + i * dn) (t + i * dt) (φ x E) (.nx fun n' t' e => n' ≤ n + (i + 1) * dn ∧ t' ≤ t + (i + 1) * dt ∧ WkL e E)))
    (hp : PassesOwn (model X.prog X.w) X.A X.env X.xe) (hs : ∀ x, foldedSetIterable iter X.env x = pure x := by intro _; rfl) :
    PS X (.For tg iter body [] pos) (tStG X.K q n t es (.nx fun n' t' e => n' = n + xs.length * dn ∧ t' = t + xs.length * dt ∧ e = E)) :=
  ps_imp (ps_for hp hc hi hg (pss_hyp (ι := Nat × ι) (C := fun y => xs[y.1]? = some y.2) (t := fun y => tStG X.K q (n + y.1 * dn) (t + y.1 * dt) (φ y.2 E) (.nx fun n' t' e => n' ≤ n + (y.1 + 1) * dn ∧ t' ≤ t + (y.1 + 1) * dt ∧ WkL e E)) fun y h => hb y.1 y.2 h) hs) fun D σ H ⟨F0, H0, F, ga, S, kk⟩ => by
    refine ⟨F0, withP q H0 H, F, S.held, fun J F1 H1 g1 w => ?_⟩
    have hlen : (xs.map enc).length = xs.length := List.length_map ..
    unfold WalkD at w
    rw [hlen] at w
    obtain ⟨S1, eq1⟩ := (S.held.grow g1).back S.h0 ga.some S.f0 S.s0
    have ga1 := ga.mono g1.ff eq1 (Nat.le_refl _) (Nat.le_refl _)
    refine for_it (g := g) (tb := fun D σ H => ∃ y : Nat × ι, xs[y.1]? = some y.2 ∧ tStG X.K q (n + y.1 * dn) (t + y.1 * dt) (φ y.2 E) (.nx fun n' t' e => n' ≤ n + (y.1 + 1) * dn ∧ t' ≤ t + (y.1 + 1) * dt ∧ WkL e E) D σ H) (D := D) (σ := σ) (H := H1) w
      (fun i σ H => ∃ F', Same F1 F' ∧ GAt X.K F' q (n + i * dn) (t + i * dt) H ∧ Sv X.K E F0 H0 F' (wo q H) σ) ⟨F1, Same.refl _, by rw [Nat.zero_mul, Nat.zero_mul]; exact ga1, S1.wk h0.wk⟩ ?_ ?_ ?_
    · rintro i σ' H' _ ⟨F', s, _, S'⟩
      exact s.trans (S'.fh.trans (wo_sub q H'))
    · rintro i x σ2 H2 H3 hi ⟨F2, s2, ga2, S2⟩ y
      obtain ⟨F3, g3', d, hd, pd⟩ := y F2 s2 (S2.fh.trans (wo_sub q H2))
      have hx : xs[i]? = some xs[i] := List.getElem?_eq_getElem hi
      rw [List.getElem?_map, hx] at hd
      cases hd
      have S3 := S2.held.grow g3'
      refine (ht _ (List.getElem_mem hi)).run _ F0 (withP q H0 H2) F3 H3 _ x _ S3 pd fun σ' S' _ _ => ?_
      obtain ⟨S', eq⟩ := S'.back S2.h0 ga2.some S2.f0 S2.s0
      exact ⟨(i, xs[i]), hx, F0, H0, F3, ga2.mono g3'.ff eq (Nat.le_refl _) (Nat.le_refl _), S', fun n4 t4 e4 σ4 F4 H4 ⟨ln, lt, w4⟩ s4 ga4 S4 => ⟨F4, (s2.trans g3'.ff).trans s4, ga4.mono (Same.refl _) rfl ln lt, S4.wk w4.wk⟩⟩
    · rintro σ' H' ⟨F', s, ga', S'⟩
      exact kk _ _ E σ' F' H' ⟨rfl, rfl, rfl⟩ (g1.ff.trans s) ga' S'
end
/-- the dict, given back -/
def GrpIs (K : PySem.W.Frag) (ks : List Str) (look : Str → List (List Mk)) : Rel := fun F _ v => ∃ q kvs, v = .ref q ∧ F q = some (.dK kvs) ∧ Grp K F ks look kvs
instance {ks : List Str} {look : Str → List (List Mk)} : PerR (GrpIs K ks look) := ⟨fun _ _ _ _ _ g ⟨q, kvs, e, h, r⟩ => ⟨q, kvs, e, g _ _ h, r.mono g⟩⟩
def GrpR (K : PySem.W.Frag) (n t : Nat) : Rel := fun F H v => ∃ i : List Str × (Str → List (List Mk)), GOk n t i.1 i.2 ∧ GrpIs K i.1 i.2 F H v
instance {n t : Nat} : PerR (GrpR K n t) := ⟨fun F H F' H' v g ⟨i, o, r⟩ => ⟨i, o, PerR.m F H F' H' v g r⟩⟩
theorem g_ret (he : PE X e (tCan K es (Is (.ref q)))) : PS X (.Return (some e) pos) (tStG K q n t es (.rt (GrpR K n t))) :=
  ps_imp (ps_ret he) fun D σ H ⟨F0, H0, F, ga, S, kk⟩ => ⟨F0, withP q H0 H, F, S.held, fun v F1 H1 g1 r1 => by
    have r1 : v = .ref q := r1
    subst r1
    obtain ⟨S1, eq⟩ := (S.held.grow g1).back S.h0 ga.some S.f0 S.s0
    obtain ⟨kvs, ks, look, hq, gr, go⟩ := ga.mono g1.ff eq (Nat.le_refl _) (Nat.le_refl _)
    have sf : Same F1 (upd F1 q (.dK kvs)) := same_new (same_free S1.fh)
    exact kk _ (upd F1 q (.dK kvs)) H1 (S1.up.g.keep S.h0 (same_free S1.fh) hq) ⟨(ks, look), go, q, kvs, rfl, upd_same, gr.mono sf⟩⟩
/-- found = {k: lists}; the rest -/
theorem g_begin (i : Nat) {x : Str} {p' dp : Pos} {k : Str} {ls : List (List Mk)} {r : List Stmt} {R : Rel} (hk : PE X a (tCan K es (Dat K (.str k)))) (hv : PE X b (tCan K es (Dat K (glD ls)))) (hls : GLs ls) (hN : X.N.Nodup)
    (h : ∀ q, PSs X r (tStG K q 1 ls.length (es.set i (.is (Is (.ref q)))) (.rt R))) (hi : X.N[i]? = some x := by rfl) (hx : Loc X.env.scope x := by first | exact .inl rfl | exact .inr rfl)
    (hs : swapsWith (.Dict [some a] [b] dp) (some (.Name x p')) pos.line X.env = pure false := by rfl) (hf : X.fn x = true ∨ X.env.scope.names.lookup x = some .local := by first | exact .inl rfl | exact .inr rfl) :
    PSs X (.Assign [.Name x p'] (.Dict [some a] [b] dp) pos :: r) (tSt K es (.rt R)) :=
  pss_imp (pss_cons (ps_set hN hi hx (pe_disp (pps_cons hk hv pps_nil) rfl rfl (by simp) (by show 1 ≤ 15; decide)) hs hf) (pss_hyp (ι := Addr) (C := fun _ => True) (t := fun q => tStG K q 1 ls.length (es.set i (.is (Is (.ref q)))) (.rt R)) fun q _ => h q)) fun D σ H ⟨F0, H0, F, S, kk⟩ => by
    intro q nq
    have fq : F q = none := S.fh.free nq
    have h0q : H0 q = none := S.g.hh.free nq
    have gq : Grow F H F (upd H q (.dK [])) := Grow.newH S.fh nq
    refine ⟨F0, H0, F, S.grow gq, fun y F1 H1 g1 r1 => ⟨F0, H0, F1, (S.grow gq).grow g1, fun v F2 H2 g2 r2 => ?_⟩⟩
    have r1 := dat_str r1
    subst r1
    have hq2 : H2 q = some (.dK []) := g2.hh _ _ (g1.hh _ _ upd_same)
    have f1 : F1 q = none := g1.nw q fq (by rw [upd_same]; exact fun z => by cases z)
    have f2 : F2 q = none := g2.nw q f1 (by rw [g1.hh _ _ upd_same]; exact fun z => by cases z)
    refine ⟨hq2, [(.inr k, v)], rfl, by show 1 ≤ 15; decide, q, trivial, F0, H0, F2, ⟨[(.inr k, v)], [k], fun _ => ls, upd_same, ⟨rfl, fun j hj => ?_⟩, ?_⟩, ?_, fun v' F' H' g' r' => kk v' F' H' g' r'⟩
    · rw [List.mem_singleton.mp hj]
      exact ⟨v, by unfold valV; simp, r2⟩
    · exact ⟨by simp, by simp, by simp, fun _ _ => hls⟩
    · have S2 := ((S.grow gq).grow g1).grow g2
      have ew : wo q (upd H2 q (.dK (mergeK [] [(.inr k, v)]))) = wo q H2 := funext fun b => by
        by_cases h : b = q
        · rw [h, wo_self, wo_self]
        · rw [wo_ne h, wo_ne h, upd_ne h]
      rw [ew]
      have S3 : Sv K es F0 H0 F2 (wo q H2) σ := by
        refine ⟨S2.s0, ⟨S2.g.ff, same_wo S2.g.fh f2, fun b o e => ?_, fun b e m => S2.g.nw b e m⟩, S2.len, fun j en he => ?_, S2.df⟩
        · have hb : b ≠ q := fun z => by rw [z, h0q] at e; cases e
          rw [wo_ne hb]
          exact S2.g.hh b o e
        · have o := S2.ok j en he
          cases en with
          | no => trivial
          | is R =>
            obtain ⟨m, v, e, r⟩ := o
            exact ⟨m, v, e, m.m _ _ _ _ _ (Same.refl F2) r⟩
          | own ds =>
            obtain ⟨l, vs, e, n0, n2, hl, ad⟩ := o
            have hb : l ≠ q := fun z => by rw [z, hq2] at hl; cases hl
            exact ⟨l, vs, e, n0, n2, by rw [wo_ne hb]; exact hl, ad⟩
      exact S3.set (R := Is (.ref q)) rfl
end
end Sr
/-! groups -/
namespace Sr
open PySem PySem.Spec PyProof.Rows L2 Dl Sb Nd
variable {P : Program} {w : World} {mg : Str → Option Value} {base : Heap} {K : PySem.W.Frag}
section
variable {X : Cx} {es : List Ent} {a b e d : Expr} {pos p2 p3 : Pos} {q : Addr} {n t : Nat}
theorem e_addS {x y : Str} (ha : PE X a (tCan K es (Dat K (.str x)))) (hb : PE X b (tCan K es (Dat K (.str y)))) (hz : x.length + y.length ≤ 1000) : PE X (.BinOp a .Add b pos) (tCan K es (Dat K (.str (x ++ y)))) :=
  e_op op_add_str ha hb fun u v F H Q s hx hy k => ⟨x, y, dat_str hx, dat_str hy, by rw [sizeLine_eq]; omega, can_now s (Dp.str _) k⟩
theorem g_frz {st : List Stmt} {o : OutG} (i : Nat) {ds : List PyData} (hi : es[i]? = some (.own ds)) (h : PSs X st (tStG K q n t (es.set i (.is (Dat K (.list ds)))) o)) : PSs X st (tStG K q n t es o) :=
  pss_imp h fun D σ H ⟨F0, H0, F, ga, S, k⟩ => by
    obtain ⟨F', sf, S'⟩ := S.frz hi
    exact ⟨F0, H0, F', ga.mono sf rfl (Nat.le_refl _) (Nat.le_refl _), S', k.pre sf⟩
end
theorem len_l : Str.length "l" = 1 := by decide +kernel
theorem len_c : Str.length "c" = 1 := by decide +kernel
theorem cS_len (c : C) : (cS c).length ≤ 10 := by cases c <;> decide +kernel
theorem kS_len (c : Bool) : (kS c).length ≤ 10 := by cases c <;> decide +kernel
theorem ocS_len (c : Option C) : (ocS c).length ≤ 10 := by
  cases c with
  | none => decide +kernel
  | some c => exact cS_len c
theorem gls_one {l : List Mk} (h0 : 0 < l.length) (h1 : l.length ≤ 8) (h : ∀ m ∈ l, m.ok = true) : GLs [l] := ⟨by show 1 ≤ 8; decide, fun l' hl => by rw [List.mem_singleton.mp hl]; exact ⟨h0, h1, h⟩⟩
abbrev FGroups (P : Program) (w : World) (K : PySem.W.Frag) (mg : Str → Option Value) (base : Heap) : Prop := FnD P w K mg base 1 "_law_groups" (fun _ : Unit => True) (fun _ => []) (fun _ => GrpR K 14 28)
set_option maxHeartbeats 1000000 in
theorem f_groups (D : DefAt K mg "_law_groups" s_l_groups) : FGroups P w K mg base :=
  def_D D S_l_groups (fun f fd F => F.binds fun _ _ _ _ _ _ us hl => match us, hl with | [], _ => rfl) (fun _ => inferInstance) (fun _ => rfl) fun f cdv A outer s0 H E hr _ _ => by
    have hu := hu64 hr
    have hu1 : (A.deeper (envOfC "_law_groups" (defScope s_l_groups) s0.heap.objs.size f cdv)).units + 1 < cLine := by omega
    refine g_begin 0 (k := "n") (ls := [[Mk.nw true]]) e_str (e_is (e_datL (e_lst (d_cons (e_datL (e_lst (d_cons (e_tup (d_cons e_str (d_cons e_str d_nil))) d_nil))) d_nil))) rfl) (gls_one (by decide) (by decide) (fun m hm => by rw [List.mem_singleton.mp hm]; rfl)) S_l_groups.nd ?_
    intro q
    refine g_to [.is (Is (.ref q)), .no, .no, .no, .no, .no, .no, .no] ?_
    refine g_cons (g_for (dn := 1) (dt := 1) (E := [.is (Is (.ref q)), .no, .no, .no, .no, .no, .no, .no]) (enc := cD) (xs := [C.black, .grey, .white]) (js := [1]) (φ := fun x e => e.set 1 (.is (Dat K (cD x)))) rfl (i_tup (e_tup (d_cons e_str (d_cons e_str (d_cons e_str d_nil))))) (pg_name (i := 1) S_l_groups.nd rfl (.inl rfl)) (fun _ _ => tg_name 1 _) (WkL.refl _) ?_ PassesOwn.never) ?_
    · intro i c hi
      have hi3 : i < 3 := (List.getElem?_eq_some_iff.mp hi).1
      refine g_to [.is (Is (.ref q)), .is (Dat K (cD c)), .no, .no, .no, .no, .no, .no] ?_
      refine g_nx (g_one (g_put (k := "l" ++ cS c) (ls := [[Mk.ld true c]]) hu1 (e_v 0) (e_addS e_str (e_v 1) (by have := cS_len c; have := len_l; omega)) (e_is (e_datL (e_lst (d_cons (e_datL (e_lst (d_cons (e_tup (d_cons e_str (d_cons e_str (d_cons (e_v 1) d_nil)))) d_nil))) d_nil))) rfl)
        (gls_one (by show 0 < 1; decide) (by show 1 ≤ 8; decide) (fun m hm => by rw [List.mem_singleton.mp hm]; rfl)) (by omega))) ?_
      rintro n' t' e ⟨rfl, rfl, rfl⟩
      exact ⟨by omega, by show _ + 1 ≤ _; omega, .same (.drop (.same (.same (.same (.same (.same (.same .nil)))))))⟩
    rintro n1 t1 e ⟨rfl, rfl, rfl⟩
    refine g_cons (g_for (dn := 4) (dt := 4) (E := [.is (Is (.ref q)), .no, .no, .no, .no, .no, .no, .no]) (enc := fun k => PyData.str (kS k)) (xs := [true, false]) (js := [2]) (φ := fun x e => e.set 2 (.is (Dat K (.str (kS x))))) rfl (i_tup (e_tup (d_cons e_str (d_cons e_str d_nil)))) (pg_name (i := 2) S_l_groups.nd rfl (.inr rfl)) (fun _ _ => tg_name 2 _) (WkL.refl _) ?_ PassesOwn.never) ?_
    · intro i k hi
      have hi2 : i < 2 := (List.getElem?_eq_some_iff.mp hi).1
      refine g_to [.is (Is (.ref q)), .no, .is (Dat K (.str (kS k))), .no, .no, .no, .no, .no] ?_
      refine g_nx (g_one (g_for (dn := 1) (dt := 1) (E := [.is (Is (.ref q)), .no, .is (Dat K (.str (kS k))), .no, .no, .no, .no, .no]) (enc := fun o => PyData.str (ocS o)) (xs := [some C.black, some C.grey, none, some C.white]) (js := [3]) (φ := fun x e => e.set 3 (.is (Dat K (.str (ocS x))))) rfl (i_tup (e_tup (d_cons e_str (d_cons e_str (d_cons e_str (d_cons e_str d_nil)))))) (pg_name (i := 3) S_l_groups.nd rfl (.inr rfl)) (fun _ _ => tg_name 3 _) (WkL.refl _) ?_ PassesOwn.never)) ?_
      · intro j o hj
        have hj4 : j < 4 := (List.getElem?_eq_some_iff.mp hj).1
        have hk := kS_len k
        have ho := ocS_len o
        refine g_to [.is (Is (.ref q)), .no, .is (Dat K (.str (kS k))), .is (Dat K (.str (ocS o))), .no, .no, .no, .no] ?_
        refine g_nx (g_one (g_put (k := kS k ++ ocS o) (ls := [[Who.holder, .new].map fun x => Mk.so k .black o (some .white) x]) hu1 (e_v 0) (e_addS (e_v 2) (e_v 3) (by omega)) (e_is (e_datL (e_lst (d_cons (e_datL (e_lc0 (enc := fun x => PyData.str (whoS x)) (f := fun x => mkD (.so k .black o (some .white) x)) (own := [("_law_who", 7)]) (xs := [Who.holder, .new]) rfl S_l_groups.nd (i_tup (e_tup (d_cons e_str (d_cons e_str d_nil))))
            (blkOk_by (N := N_l_groups) (sc := defScope s_l_groups) (by decide +kernel)) (fun _ _ _ _ _ => pg_name (i := 7) S_l_groups.nd rfl (.inl rfl)) (fun x _ => tg_name 7 _) (by simp) (fun x _ _ _ _ _ _ => e_is (e_tup (ds := [.str "store", .str (kS k), .str "black", .str (ocS o), .str "white", .str (whoS x)]) (d_cons e_str (d_cons (e_v 2) (d_cons e_str (d_cons (e_v 3) (d_cons e_str (d_cons (e_v 7) d_nil))))))) rfl) (by decide))) d_nil))) rfl)
          (gls_one (by show 0 < 2; decide) (by show 2 ≤ 8; decide) (fun m hm => by
            obtain ⟨x, hx, rfl⟩ := List.mem_map.mp hm
            simp only [List.mem_cons, List.not_mem_nil, or_false] at hx
            rcases hx with rfl | rfl <;> rfl)) (by show 1 + 3 * 1 + i * 4 + j * 1 < 1000; omega))) ?_
        rintro n' t' e ⟨rfl, rfl, rfl⟩
        exact ⟨by omega, by show _ + 1 ≤ _; omega, .same (.same (.same (.drop (.same (.same (.same (.same .nil)))))))⟩
      · rintro n' t' e ⟨rfl, rfl, rfl⟩
        exact ⟨by show 1 + 3 * 1 + i * 4 + 4 * 1 ≤ 1 + 3 * 1 + (i + 1) * 4; omega, by show 1 + 3 * 1 + i * 4 + 4 * 1 ≤ 1 + 3 * 1 + (i + 1) * 4; omega, .same (.same (.drop (.same (.same (.same (.same (.same .nil)))))))⟩
    rintro n1 t1 e ⟨rfl, rfl, rfl⟩
    refine g_cons (g_for (dn := 1) (dt := 8) (E := [.is (Is (.ref q)), .no, .no, .no, .no, .no, .no, .no]) (enc := cD) (xs := [C.grey, .white]) (js := [4]) (φ := fun x e => e.set 4 (.is (Dat K (cD x)))) rfl (i_tup (e_tup (d_cons e_str (d_cons e_str d_nil)))) (pg_name (i := 4) S_l_groups.nd rfl (.inl rfl)) (fun _ _ => tg_name 4 _) (WkL.refl _) ?_ PassesOwn.never) ?_
    · intro i c hi
      have hi2 : i < 2 := (List.getElem?_eq_some_iff.mp hi).1
      refine g_to [.is (Is (.ref q)), .no, .no, .no, .is (Dat K (cD c)), .no, .no, .no] ?_
      refine g_cons (g_lift (s_setL1 5 (e_lst d_nil) S_l_groups.nd)) ?_
      rintro n2 t2 e ⟨rfl, rfl, rfl⟩
      refine g_to [.is (Is (.ref q)), .no, .no, .no, .is (Dat K (cD c)), .own [], .no, .no] ?_
      refine g_cons (g_lift (s_forA (α := List Mk) (fun _ M => [.is (Is (.ref q)), .no, .no, .no, .is (Dat K (cD c)), .own (M.map fun m => .list [mkD m]), .no, .no]) (fun i M => M.length = i * 4 ∧ ∀ m ∈ M, m.ok = true) [] (enc := fun k => PyData.str (kS k)) (xs := [true, false]) (js := [2]) (φ := fun x e => e.set 2 (.is (Dat K (.str (kS x))))) rfl (i_tup (e_tup (d_cons e_str (d_cons e_str d_nil)))) (pg_name (i := 2) S_l_groups.nd rfl (.inr rfl)) (fun _ _ => tg_name 2 _) (WkL.refl _) ⟨rfl, fun m h => (nomatch h)⟩ ?_ PassesOwn.never)) ?_
      · intro j k M hj ⟨hl, hM⟩
        have hj2 : j < 2 := (List.getElem?_eq_some_iff.mp hj).1
        refine ss_to [.is (Is (.ref q)), .no, .is (Dat K (.str (kS k))), .no, .is (Dat K (cD c)), .own (M.map fun m => .list [mkD m]), .no, .no] ?_
        refine ss_nx (ss_one (s_forA (α := List Mk) (fun _ M => [.is (Is (.ref q)), .no, .is (Dat K (.str (kS k))), .no, .is (Dat K (cD c)), .own (M.map fun m => .list [mkD m]), .no, .no]) (fun a M => M.length = j * 4 + a ∧ ∀ m ∈ M, m.ok = true) M (enc := fun o => PyData.str (ocS o)) (xs := [some C.black, some C.grey, none, some C.white]) (js := [6]) (φ := fun x e => e.set 6 (.is (Dat K (.str (ocS x))))) rfl (i_tup (e_tup (d_cons e_str (d_cons e_str (d_cons e_str (d_cons e_str d_nil)))))) (pg_name (i := 6) S_l_groups.nd rfl (.inl rfl)) (fun _ _ => tg_name 6 _) (WkL.refl _) ⟨hl, hM⟩ ?_ PassesOwn.never)) ?_
        · clear hl hM M
          intro a o M ha ⟨hl, hM⟩
          have ha4 : a < 4 := (List.getElem?_eq_some_iff.mp ha).1
          refine ss_to [.is (Is (.ref q)), .no, .is (Dat K (.str (kS k))), .no, .is (Dat K (cD c)), .own (M.map fun m => .list [mkD m]), .is (Dat K (.str (ocS o))), .no] ?_
          refine ss_end (ss_one (s_app 5 rfl (e_is (d' := .list [mkD (.so k c (some .white) o .old)]) (e_datL (e_lst (d_cons (e_tup (d_cons e_str (d_cons (e_v 2) (d_cons (e_v 4) (d_cons e_str (d_cons (e_v 6) (d_cons e_str d_nil))))))) d_nil))) rfl) (by rw [List.length_map]; omega))) ⟨M ++ [.so k c (some .white) o .old], ⟨by rw [List.length_append, hl]; rfl, fun m hm => ?_⟩, ?_⟩
          · rcases List.mem_append.mp hm with z | z
            · exact hM m z
            · rw [List.mem_singleton.mp z]; rfl
          · rw [List.map_append]
            exact .same (.same (.same (.same (.same (.same (.drop (.same .nil)))))))
        · rintro e ⟨M', ⟨h1, h2⟩, w'⟩
          exact ⟨M', ⟨by have h1 : M'.length = j * 4 + 4 := h1; omega, h2⟩, w'.trans (.same (.same (.drop (.same (.same (.same (.same (.same .nil))))))))⟩
      rintro n2 t2 e ⟨rfl, rfl, M, ⟨hl, hM⟩, w'⟩
      have hl : M.length = 2 * 4 := hl
      refine g_pre (Nat.le_refl _) (Nat.le_refl _) w' ?_
      refine g_frz 5 rfl ?_
      refine g_to [.is (Is (.ref q)), .no, .no, .no, .is (Dat K (cD c)), .is (Dat K (.list (M.map fun m => .list [mkD m]))), .no, .no] ?_
      refine g_nx (g_one (g_put (k := "c" ++ cS c) (ls := M.map fun m => [m]) hu1 (e_v 0) (e_addS e_str (e_v 4) (by have := cS_len c; have := len_c; omega)) (e_is (e_v 5) (by unfold glD; rw [List.map_map]; rfl))
        ⟨by rw [List.length_map]; omega, fun l hl' => by
          obtain ⟨m, hm, rfl⟩ := List.mem_map.mp hl'
          exact ⟨by show 0 < 1; decide, by show 1 ≤ 8; decide, fun m' hm' => by rw [List.mem_singleton.mp hm']; exact hM m hm⟩⟩ (by show 1 + 3 * 1 + 2 * 4 + i * 1 < 1000; omega))) ?_
      rintro n' t' e ⟨rfl, rfl, rfl⟩
      exact ⟨by omega, by rw [List.length_map, hl]; omega, .same (.same (.same (.same (.drop (.drop (.same (.same .nil)))))))⟩
    rintro n1 t1 e ⟨rfl, rfl, rfl⟩
    exact g_one (g_ret (e_v 0))
end Sr
/-! rules for table: names of the groups, a group, remove, sorted(set(marks)) -/
namespace Sr
open PySem PySem.Spec PyProof.Rows L2 Dl Sb Nd
section
variable {X : Cx} {K : PySem.W.Frag} {es : List Ent} {a b e : Expr} {pos p2 p3 : Pos} {p : Addr} {c c' c2 : Nat}
/-- a slot's own words are opened -/
theorem set_some {σ : L2.St} {i : Nat} {v : V} (e : σ[i]? = some (some v)) : σ.set i (some v) = σ := by
  have hl : i < σ.length := (List.getElem?_eq_some_iff.mp e).1
  refine List.ext_getElem? fun j => ?_
  by_cases hj : i = j
  · subst hj
    rw [get_set_σ hl, e]
  · rw [List.getElem?_set_ne hj]
theorem ss_exR {st : List Stmt} {o : Out} {ι : Type} {C : ι → Prop} {Rf : ι → Rel} [∀ j, PerR (Rf j)] (i : Nat) (hi : es[i]? = some (.is (fun F H v => ∃ j, C j ∧ Rf j F H v))) (h : ∀ j, C j → PSs X st (tSt K (es.set i (.is (Rf j))) o)) : PSs X st (tSt K es o) :=
  pss_imp (pss_hyp h) fun D σ H ⟨F0, H0, F, S, k⟩ => by
    obtain ⟨m, v, e, j, cj, r⟩ := S.ok i _ hi
    have S' := S.set (i := i) (R := Rf j) r
    rw [set_some e] at S'
    exact ⟨j, cj, F0, H0, F, S', k⟩
theorem pp_exR {st : List Stmt} {o : OutP} {ι : Type} {C : ι → Prop} {Rf : ι → Rel} [∀ j, PerR (Rf j)] (i : Nat) (hi : es[i]? = some (.is (fun F H v => ∃ j, C j ∧ Rf j F H v))) (h : ∀ j, C j → PSs X st (tStP K p c (es.set i (.is (Rf j))) o)) : PSs X st (tStP K p c es o) :=
  pss_imp (pss_hyp h) fun D σ H ⟨F0, H0, F, pa, S, k⟩ => by
    obtain ⟨m, v, e, j, cj, r⟩ := S.ok i _ hi
    have S' := S.set (i := i) (R := Rf j) r
    rw [set_some e] at S'
    exact ⟨j, cj, F0, H0, F, pa, S', k⟩
/-- sorted(groups) -/
theorem e_gnames {ks : List Str} {look : Str → List (List Mk)} (hc : X.calm = true) (hm : X.mg "sorted" = none) (h : PE X e (tCan X.K es (GrpIs X.K ks look))) (hz : ks.length < 64) (hg : Gl X "sorted" := by rfl) (he : starEach [e] X.env = (false, eval e X.env) :: starEach [] X.env := by rfl) :
    PE X (.Call (.Name "sorted" p2) [e] [] pos) (tCanL X.K es (fun ds => ∃ ys : List Str, ys.Perm ks ∧ ds = ys.map PyData.str)) :=
  pe_imp (pe_callB (call_sortedD hc) hg hm boot_sorted (pa_cons h pa_nil he) (he := he)) (can1L fun x F H Q s ⟨q, kvs, e, hq, gr⟩ k => ⟨q, kvs, ks, by rw [e], .inl (s _ _ hq), gr.keys, hz, fun ys l pm _ n => new_at (Grow.refl s) ⟨ys, pm, rfl⟩ (of_strs ys) k l n⟩)
/-- groups[name] -/
theorem e_gget {ks : List Str} {look : Str → List (List Mk)} {x : Str} (hu : X.A.units + 1 < cLine) (ha : PE X a (tCan K es (GrpIs K ks look))) (hb : PE X b (tCan K es (Dat K (.str x)))) (hx : x ∈ ks) (hs : NoSl b := by exact fun _ _ => rfl) : PE X (.Subscript a b pos) (tCan K es (Dat K (glD (look x)))) :=
  pe_imp (pe_dget hu ha hb hs) fun σ H Q ⟨F0, H0, F, S, k⟩ => ⟨F0, H0, F, S, fun u F1 H1 g1 ⟨q, kvs, e, hq, gr⟩ => ⟨F0, H0, F1, S.grow g1, fun y F2 H2 g2 r2 => by
    obtain ⟨v, ev, dv⟩ := gr.val x hx
    exact ⟨q, v, e, .inl ⟨kvs, .inr x, .inl (g2.hh _ _ (g1.fh _ _ hq)), dat_str r2, ev.symm⟩, k v F2 H2 (g1.trans g2) (dp_mono g2.ff _ _ dv)⟩⟩⟩
/-- l.remove(x) -/
def rRemD (K : PySem.W.Frag) : V → List V → Hp → VK → Prop := fun x vs H Q => ∃ (l : Addr) (us : List V) (y : V) (ds : List PyData) (d : PyData), x = .ref l ∧ vs = [y] ∧ H l = some (.lst us) ∧ DpAll K H us ds ∧ Dp K H y d ∧ PyData.plainAll ds = true ∧ d.plain = true ∧ d.depth ≤ 60 ∧ (∃ z ∈ ds, PyData.eqv z d = true) ∧
  ∀ j, Q .non (upd H l (.lst (us.eraseIdx j)))
theorem mt_remD (hu : X.A.units + 64 < cLine) : MtR X "list.remove" (rRemD X.K) := by
  intro pins s σ H x vs v us Q I rx rv h
  obtain ⟨l, xs, y, ds, d, rfl, rfl, hH, ha, hy, pl, pd, h60, hz, q⟩ := h
  cases rx
  obtain ⟨u, rfl, ru⟩ := rv.one
  obtain ⟨z, its, n, r, hl, e⟩ := I.lstM hH
  obtain ⟨as, rs⟩ := Dp.readsAll I ds _ its ha r
  obtain ⟨bs, rd⟩ := Dp.reads I d y u hy ru
  have hsz : its.toArray.size ≤ sizeLine := by rw [List.size_toArray, ← hl]; exact z
  cases hp : SeqAt.dataPlace ds d with
  | none =>
    obtain ⟨w, hw, ew⟩ := hz
    have := List.findIdx?_eq_none_iff.mp hp w hw
    rw [ew] at this
    cases this
  | some j =>
    refine SeqAt.remove_list_data (vs := its.toArray) (xs := ds) (j := j) ⟨_, e, rfl, n, rfl⟩ (show ReadsAll s.heap its.toArray.toList ds as from rs) rd pl pd (by have := Nat.min_le_right (PyData.depthAll ds) d.depth; omega) hp hsz ?_
    refine ⟨.non, _, I.lset (its' := its.eraseIdx j) hH e ?_ (r.eraseIdx j) ?_, rfl, q j⟩
    · show its.toArray.eraseIdxIfInBounds j = (its.eraseIdx j).toArray
      rw [List.eraseIdxIfInBounds_toArray]
    · have := List.length_eraseIdx_le xs j
      omega
theorem dpa_erase {H : Hp} : ∀ {vs : List V} {ds : List PyData} (j : Nat), DpAll K H vs ds → DpAll K H (vs.eraseIdx j) (ds.eraseIdx j)
  | _, _, _, .nil => .nil
  | _, _, 0, .cons _ t => t
  | _, _, j + 1, .cons h t => .cons h (dpa_erase j t)
theorem plainAll_of : ∀ l : List PyData, (∀ d ∈ l, d.plain = true) → PyData.plainAll l = true
  | [], _ => rfl
  | d :: l, h => by
    show (d.plain && PyData.plainAll l) = true
    rw [h d List.mem_cons_self, plainAll_of l fun z hz => h z (List.mem_cons_of_mem _ hz)]
    rfl
theorem q_rem {ap cp ep : Pos} (i : Nat) {x : Str} {p' : Pos} {ds : List PyData} (hu : X.A.units + 64 < cLine) (hi : es[i]? = some (.own ds)) (h : PE X e (tCanP X.K p c es (ExD X.K fun d => d ∈ ds) c')) (hd0 : ∀ d ∈ ds, d.plain = true ∧ d.depth ≤ 60 ∧ PyData.eqv d d = true) (hN : X.N[i]? = some x := by rfl)
    (hv : Vis X.env.scope x := by first | exact Or.inl rfl | exact Or.inr (Or.inl rfl) | exact Or.inr (Or.inr rfl)) (hd : (x == ("__debug__" : Str)) = false := by decide) (hcd : (x == ("__classdict__" : Str)) = false := by decide)
    (hbase : attributeBase (.Name x p') "remove" X.env (eval (.Name x p') X.env) = eval (.Name x p') X.env := by rfl)
    (hfew : ((backTo cp (starEach (e :: []) X.env)).all (fun x => !x.1) && (backToKw cp (keywordEach [] X.env)).all (fun x => x.1.isSome)
      && decide ((e :: []).length + ([] : List Keyword).length + (if ([] : List Keyword).isEmpty then 0 else 1) < 30)) = true := by rfl)
    (hline : (ap.endLine == cp.line) = true := by rfl) (hs : starEach (e :: []) X.env = (false, eval e X.env) :: starEach [] X.env := by rfl) (hplain : (backTo cp (starEach [] X.env)).any (·.1) = false := by rfl)
    (hsw : swapsWith (.Call (.Attribute (.Name x p') "remove" ap) [e] [] cp) none ep.line X.env = pure false := by rfl) :
    PS X (.Expr (.Call (.Attribute (.Name x p') "remove" ap) [e] [] cp) ep) (tStP X.K p c es (.nx fun c2 e => c2 = c' ∧ ∃ j, e = es.set i (.own (ds.eraseIdx j)))) :=
  ps_imp (ps_expr (pe_bm PySem.F.plainAttrs_list PySem.F.slot_list_remove PySem.F.type_list_remove (mt_remD hu) (pe_var hN hv hd hcd) (pa_cons h pa_nil hs) hbase hfew hline hs hplain) hsw) fun D σ H ⟨F0, H0, F, pa, S, k⟩ => by
    obtain ⟨q, vs, e, n0, n, hq, a⟩ := S.ok i _ hi
    obtain ⟨hb, hq⟩ := wo_some hq
    refine ⟨_, e, .inl ⟨rfl, vs, .inl (.inl hq)⟩, F0, H0, F, pa, S, fun v F1 H1 pa1 g1 ⟨d, pd, r1⟩ => ?_⟩
    have S1 := S.grow g1
    have hq1 : wo p H1 q = some (.lst vs) := g1.hh _ _ (by rw [wo_ne hb]; exact hq)
    have sH : Same F1 H1 := S1.fh.trans (wo_sub p H1)
    refine ⟨q, vs, v, ds, d, rfl, rfl, (wo_some hq1).2, dpAll_mono (g1.ff.trans sH) _ _ a, dp_mono sH _ _ r1, plainAll_of ds fun z hz => (hd0 z hz).1, (hd0 d pd).1, (hd0 d pd).2.1, ⟨d, pd, (hd0 d pd).2.2⟩, fun j => ?_⟩
    have S2 := S1.chg (vs := vs) hi e (dpa_erase j (dpAll_mono g1.ff _ _ a))
    have eh : wo p (upd H1 q (.lst (vs.eraseIdx j))) = upd (wo p H1) q (.lst (vs.eraseIdx j)) := funext fun b => by
      by_cases h1 : b = q
      · subst h1
        rw [upd_same, wo_ne hb, upd_same]
      · rw [upd_ne h1]
        by_cases h2 : b = p
        · rw [h2, wo_self, wo_self]
        · rw [wo_ne h2, wo_ne h2, upd_ne h1]
    refine k c' _ σ F1 _ ⟨rfl, j, rfl⟩ g1.ff (pa1.same ?_) (by rw [eh]; exact S2)
    rw [upd_ne (Ne.symm hb)]
theorem mk_ok3 (m : Mk) : (mkD m).plain = true ∧ (mkD m).depth ≤ 60 ∧ PyData.eqv (mkD m) (mkD m) = true := ⟨PyData.plain_of_canLay0 _ (shd_mk m).1, Nat.le_trans (shd_mk m).2 (by decide), by rw [eqv_mk]; exact decide_eq_true rfl⟩
/-- sorted(set(marks)) -/
theorem mk_triples {F : Hp} : ∀ {vs : List V} {ms : List Mk}, DpAll K F vs (ms.map mkD) → ∃ ts : List (Mk × Addr), ts.map (fun t => V.ref t.2) = vs ∧ ts.map (·.1) = ms ∧ ∀ t ∈ ts, Dp K F (.ref t.2) (mkD t.1) ∧ SqT K F t.2 ((mkS t.1).map V.str)
  | _, [], h => by
    have h' : DpAll K F _ [] := h
    cases h'
    exact ⟨[], rfl, rfl, fun b hb => (nomatch hb)⟩
  | _, m :: ms, h => by
    have h' : DpAll K F _ (mkD m :: ms.map mkD) := h
    cases h' with
    | cons h1 h2 =>
      obtain ⟨ts, rfl, rfl, q⟩ := mk_triples h2
      obtain ⟨a, vs, rfl, hs, ha⟩ := dat_tup (F := F) (H := F) h1
      have ev := strs_of ha
      subst ev
      refine ⟨(m, a) :: ts, rfl, rfl, fun b hb => ?_⟩
      rcases List.mem_cons.mp hb with z | z
      · rw [z]; exact ⟨h1, hs⟩
      · exact q b z
theorem e_ssMk {M : List Mk} {q3 : Pos} (hc : X.calm = true) (hu : X.A.units + 64 < cLine) (hm : X.mg "sorted" = none) (hm2 : X.mg "set" = none) (h : PE X e (tCan X.K es (Lsd X.K (M.map mkD)))) (hz : M.length < 64) (hg : Gl X "sorted" := by rfl) (hg2 : Gl X "set" := by rfl)
    (na : starEach [e] X.env = (false, eval e X.env) :: starEach [] X.env := by rfl) : PE X (.Call (.Name "sorted" p3) [.Call (.Name "set" p2) [e] [] q3] [] pos) (tCanL X.K es (fun ds => ∃ M' : List Mk, (∀ m ∈ M', m ∈ M) ∧ M'.length ≤ M.length ∧ ds = M'.map mkD)) :=
  pe_imp (Sbx.pe_ssTup hc hu hm hm2 h hg hg2 na) fun σ H Q ⟨F0, H0, F, S, k⟩ => ⟨F0, H0, F, S, fun x F1 H1 g ⟨l, vs, ex, hs, ha⟩ => by
    obtain ⟨ts, rfl, rfl, ht⟩ := mk_triples ha
    refine ⟨l, ts.map fun t => (mkS t.1, t.2), ex, by rw [List.map_map]; exact hs, fun r hr => ?_, by rw [List.length_map] at hz ⊢; exact hz, fun ms p h1 _ h3 n => ?_⟩
    · obtain ⟨t, h', rfl⟩ := List.mem_map.mp hr
      refine ⟨?_, seqT g.fh (ht t h').2⟩
      show mkS t.1 ≠ []
      cases t.1 <;> exact List.cons_ne_nil _ _
    · have ex : ∀ ms : List (List Str × Addr), (∀ q ∈ ms, q ∈ ts.map fun t => (mkS t.1, t.2)) → ∃ us : List (Mk × Addr), ms = us.map (fun t => (mkS t.1, t.2)) ∧ ∀ t ∈ us, t ∈ ts := by
        intro ms
        induction ms with
        | nil => exact fun _ => ⟨[], rfl, fun t h => (nomatch h)⟩
        | cons q ms ih =>
          intro hq
          obtain ⟨us, e, hus⟩ := ih fun z hz => hq z (List.mem_cons_of_mem _ hz)
          obtain ⟨t, ht', e'⟩ := List.mem_map.mp (hq q List.mem_cons_self)
          refine ⟨t :: us, by rw [e, ← e']; rfl, fun z hz => ?_⟩
          rcases List.mem_cons.mp hz with y | y
          · rw [y]; exact ht'
          · exact hus z y
      obtain ⟨us, rfl, hus⟩ := ex ms h1
      rw [List.length_map, List.length_map] at h3
      have hd : ∀ us : List (Mk × Addr), (∀ t ∈ us, t ∈ ts) → DpAll X.K F1 ((us.map fun t => (mkS t.1, t.2)).map fun p => V.ref p.2) ((us.map (·.1)).map mkD) := by
        intro us
        induction us with
        | nil => exact fun _ => .nil
        | cons t us ih => exact fun h => .cons (ht t (h t List.mem_cons_self)).1 (ih fun z hz => h z (List.mem_cons_of_mem _ hz))
      refine new_at g ⟨us.map (·.1), fun m hm => ?_, by rw [List.length_map, List.length_map]; exact h3, rfl⟩ (hd us hus) k p n
      obtain ⟨t, ht', rfl⟩ := List.mem_map.mp hm
      exact List.mem_map_of_mem (hus t ht')⟩
end
end Sr
/-! table -/
namespace Sr
open PySem PySem.Spec PyProof.Rows L2 Dl Sb Nd
variable {P : Program} {w : World} {mg : Str → Option Value} {base : Heap} {K : PySem.W.Frag}
theorem e_subI {X : Cx} {es : List Ent} {a b : Expr} {pos : Pos} {i j : Int} (ha : PE X a (tCan K es (Dat K (.int i)))) (hb : PE X b (tCan K es (Dat K (.int j)))) : PE X (.BinOp a .Sub b pos) (tCan K es (Dat K (.int (i - j)))) :=
  e_op op_sub ha hb fun x y F H Q s hx hy k => ⟨i, j, dat_int hx, dat_int hy, can_now s (Dp.int _) k⟩
theorem take_sum {f : Str → Nat} {ys : List Str} {i : Nat} {x : Str} (h : ys[i]? = some x) : ((ys.take (i + 1)).map f).sum = ((ys.take i).map f).sum + f x := by
  rw [List.take_add_one, h, List.map_append, List.sum_append]
  simp
theorem sum_le_take {f : Str → Nat} (ys : List Str) (i : Nat) : ((ys.take i).map f).sum ≤ (ys.map f).sum := by
  have e : ys.map f = (ys.take i).map f ++ (ys.drop i).map f := by rw [← List.map_append, List.take_append_drop]
  rw [e, List.sum_append]
  omega
theorem mem_mks {M : List Mk} {d : PyData} (h : d ∈ M.map mkD) : ∃ m ∈ M, d = mkD m := let ⟨m, hm, e⟩ := List.mem_map.mp h; ⟨m, hm, e.symm⟩
theorem erase_mks (M : List Mk) (j : Nat) : (M.map mkD).eraseIdx j = (M.eraseIdx j).map mkD := by
  induction M generalizing j with
  | nil => rfl
  | cons m M ih => cases j with
    | zero => rfl
    | succ j => exact congrArg (mkD m :: ·) (ih j)
set_option maxHeartbeats 1000000 in
theorem f_table (B : Bi mg) (D : DefAt K mg "_law_table" s_l_table) (T : FnAt P w K mg base 1 "_law_take" spTake) (O : FnAt P w K mg base 2 "_law_of" (spOf K)) (FM : FMarks P w K mg base) (FG : FGroups P w K mg base) : FTable P w K mg base :=
  def_P D S_l_table (fun f fd F => F.binds fun _ _ _ _ _ _ us hl => match us, hl with | [_], _ => rfl) (fun _ => inferInstance) (fun _ => rfl) fun f cdv A outer s0 H E hr _ p c _ hc => by
    have hu := hu64 hr
    have hu1 : (A.deeper (envOfC "_law_table" (defScope s_l_table) s0.heap.objs.size f cdv)).units + 1 < cLine := by omega
    have hr1 := hr.mono (show 1 ≤ 2 by decide)
    refine pp_to [.is (Is (.ref p)), .no, .no, .no, .no, .no, .no, .no] ?_
    refine pp_cons (s_lift (s_par 1 2 (p_is (e_call0 FG () trivial hr1) (p_own (e_lst d_nil) p_nil)) rfl S_l_table.nd)) ?_
    rintro c1 e ⟨rfl, rfl⟩
    refine pp_to [.is (Is (.ref p)), .is (GrpR K 14 28), .own [], .no, .no, .no, .no, .no] ?_
    refine pp_exR 1 rfl ?_
    rintro ⟨ks, look⟩ hg
    have hg : GOk 14 28 ks look := hg
    have hks := hg.few
    refine pp_to [.is (Is (.ref p)), .is (GrpIs K ks look), .own [], .no, .no, .no, .no, .no] ?_
    refine pp_cons (q_setE 3 (e_of O hr (e_v 0) (l_new (e_lst (d_cons e_int (d_cons e_int (d_cons e_int d_nil))))) (by simp) (by simp) (by omega)) S_l_table.nd) ?_
    rintro c2 e ⟨rfl, d, hd, rfl⟩
    obtain ⟨r, rfl, r1, r4⟩ : ∃ r : Nat, d = .int r ∧ 1 ≤ r ∧ r ≤ 4 := by
      simp only [List.mem_cons, List.not_mem_nil, or_false] at hd
      rcases hd with rfl | rfl | rfl
      · exact ⟨1, rfl, by decide, by decide⟩
      · exact ⟨2, rfl, by decide, by decide⟩
      · exact ⟨4, rfl, by decide, by decide⟩
    refine pp_to [.is (Is (.ref p)), .is (GrpIs K ks look), .own [], .is (Dat K (.int r)), .no, .no, .no, .no] ?_
    refine pp_cons (q_forA (k := 16) (n := 14) (α := List Mk) (Pxs := fun ys : List Str => ys.Perm ks) (enc := PyData.str) (js := [4]) (φ := fun x e => e.set 4 (.is (Dat K (.str x))))
      (fun _ _ M => [.is (Is (.ref p)), .is (GrpIs K ks look), .own (M.map mkD), .is (Dat K (.int r)), .no, .no, .no, .no])
      (fun ys i M => (∀ m ∈ M, m.ok = true) ∧ M.length ≤ ((ys.take i).map fun k => (look k).length).sum) rfl (i_lift (i_lstG (e_wkG (e_exL (e_gnames rfl B.sorted (e_v 1) (by omega))) (by
        rintro d ⟨ds, rfl, ys, pm, rfl⟩
        exact ⟨ys, pm, rfl⟩))) (Nat.le_refl _)) (pg_name (i := 4) S_l_table.nd rfl (.inl rfl)) (fun _ _ x _ => tg_name 4 _)
      (fun ys hy => ⟨[], ⟨fun m h => (nomatch h), Nat.zero_le _⟩, WkL.refl _⟩) ?_ (fun ys hy => by rw [hy.length_eq]; exact hks) PassesOwn.never) ?_
    · intro ys hy i x M hx ⟨hM, hl⟩
      have hi14 : i < 14 := by
        have := (List.getElem?_eq_some_iff.mp hx).1
        rw [hy.length_eq] at this
        omega
      have hxk : x ∈ ks := hy.mem_iff.mp (List.mem_of_getElem? hx)
      obtain ⟨g8, gl⟩ := hg.ok x hxk
      have es := take_sum (f := fun k => (look k).length) hx
      have hbnd : ((ys.take i).map fun k => (look k).length).sum ≤ 28 := by
        have h1 := sum_le_take (f := fun k => (look k).length) ys i
        have h2 := (hy.map fun k => (look k).length).sum_nat
        have h3 := hg.sum
        omega
      refine pp_to [.is (Is (.ref p)), .is (GrpIs K ks look), .own (M.map mkD), .is (Dat K (.int r)), .is (Dat K (.str x)), .no, .no, .no] ?_
      refine pp_nx (pp_one (q_forA (k := 2) (n := 8) (α := List Mk) (Pxs := (· = look x)) (enc := fun l => PyData.list (l.map mkD)) (js := [5]) (φ := fun l e => e.set 5 (.is (Dat K (.list (l.map mkD)))))
        (fun _ _ M => [.is (Is (.ref p)), .is (GrpIs K ks look), .own (M.map mkD), .is (Dat K (.int r)), .is (Dat K (.str x)), .no, .no, .no])
        (fun _ j M => (∀ m ∈ M, m.ok = true) ∧ M.length ≤ ((ys.take i).map fun k => (look k).length).sum + j) rfl (i_lift (i_exact (i_lst (e_gget hu1 (e_v 1) (e_v 4) hxk))) (Nat.le_refl _)) (pg_name (i := 5) S_l_table.nd rfl (.inl rfl)) (fun _ _ l _ => tg_name 5 _)
        (fun ls hls => ⟨M, ⟨hM, hl⟩, WkL.refl _⟩) ?_ (fun ls hls => by rw [hls]; exact g8) PassesOwn.never)) ?_
      · clear hM hl M
        rintro _ rfl j l M hl ⟨hM, hlM⟩
        have hj8 : j < 8 := Nat.lt_of_lt_of_le (List.getElem?_eq_some_iff.mp hl).1 g8
        obtain ⟨l0, l8, lok⟩ := gl l (List.mem_of_getElem? hl)
        refine pp_to [.is (Is (.ref p)), .is (GrpIs K ks look), .own (M.map mkD), .is (Dat K (.int r)), .is (Dat K (.str x)), .is (Dat K (.list (l.map mkD))), .no, .no] ?_
        refine pp_one (q_if (B := fun _ => True) (c' := c1 + 1 + i * 16 + j * 2 + 1) (PW.pt (w_orP (t_gtP (e_anInt (e_take (m := if (look x).length = 1 then 4 else 24) T hr1 (e_v 0) (e_if (c := decide ((look x).length = 1)) (t_is (t_eq hu (e_len B.len (e_sqdL (e_lsd (ds := (look x).map fun l => PyData.list (l.map mkD)) (e_gget hu1 (e_v 1) (e_v 4) hxk)))) e_int rfl rfl (nomark _)) (by
            rw [eqv_int, List.length_map]
            by_cases h : (look x).length = 1
            · rw [h]; rfl
            · rw [decide_eq_false h, decide_eq_false (by omega)])) (fun h => by rw [if_pos (of_decide_eq_true h)]; exact e_int) (fun h => by rw [if_neg (of_decide_eq_false h)]; exact e_int)) ⟨by split <;> decide, by split <;> decide⟩ (by omega)) (fun d ⟨r, e, _⟩ => ⟨r, e⟩)) e_int (nomark _))
          (w_or1P (t_wkP (t_lift (t_eq hu (e_v 3) e_int rfl rfl (nomark _)) (Nat.le_refl _)) fun _ _ => trivial)) (Nat.le_refl _))) (fun _ => ?_) (fun _ => ?_))
        · refine pp_nx (pp_one (q_app 2 rfl (e_of O hr (e_v 0) (l_dat (e_v 5)) (by rw [List.length_map]; exact l0) (by rw [List.length_map]; omega) (by omega)) (by rw [List.length_map]; omega))) ?_
          rintro c3 e ⟨rfl, d, hd, rfl⟩
          obtain ⟨m, hm, rfl⟩ := mem_mks hd
          refine ⟨by omega, M ++ [m], ⟨fun m' hm' => ?_, by rw [List.length_append, List.length_singleton]; omega⟩, ?_⟩
          · rcases List.mem_append.mp hm' with z | z
            · exact hM m' z
            · rw [List.mem_singleton.mp z]; exact lok m hm
          · rw [List.map_append]
            exact .same (.same (.same (.same (.same (.drop (.same (.same .nil)))))))
        · refine pp_nx pp_nil ?_
          rintro c3 e ⟨rfl, rfl⟩
          exact ⟨by omega, M, ⟨hM, by omega⟩, .same (.same (.same (.same (.same (.drop (.same (.same .nil)))))))⟩
      · rintro c3 e ⟨rfl, _, rfl, M', ⟨hM', hl'⟩, w'⟩
        refine ⟨by omega, M', ⟨hM', by rw [es]; exact hl'⟩, w'.trans (.same (.same (.same (.same (.drop (.same (.same (.same .nil))))))))⟩
    rintro c3 e ⟨rfl, ys, hy, M, ⟨hM, hl⟩, w3⟩
    have hl28 : M.length ≤ 28 := by
      have h1 := sum_le_take (f := fun k => (look k).length) ys ys.length
      have h2 := (hy.map fun k => (look k).length).sum_nat
      have h3 := hg.sum
      omega
    clear hl
    refine pp_pre (Nat.le_refl _) w3 ?_
    refine pp_to [.is (Is (.ref p)), .is (GrpIs K ks look), .own (M.map mkD), .is (Dat K (.int r)), .no, .no, .no, .no] ?_
    refine pp_cons (q_setE 6 (e_lift (e_call0 FM () trivial hr1) (Nat.le_refl _)) S_l_table.nd) ?_
    rintro c4 e ⟨rfl, d, ⟨ME, ⟨hME, h0⟩, rfl⟩, rfl⟩
    have hME3 := hME.2
    refine pp_to [.is (Is (.ref p)), .is (GrpIs K ks look), .own (M.map mkD), .is (Dat K (.int r)), .no, .no, .is (Dat K (.list (ME.map mkD))), .no] ?_
    refine pp_cons (q_forA (k := 1) (n := 9) (α := List Mk) (Pxs := fun xs : List Nat => ∃ r : Nat, (r : Int) < 9 ∧ xs = List.range r) (enc := fun i : Nat => .int i) (js := [7]) (φ := fun x e => e.set 7 (.is (Dat K (.int (x : Nat)))))
      (fun _ _ M => [.is (Is (.ref p)), .is (GrpIs K ks look), .own (M.map mkD), .is (Dat K (.int r)), .no, .no, .is (Dat K (.list (ME.map mkD))), .no])
      (fun _ i M => (∀ m ∈ M, m.ok = true) ∧ M.length ≤ 28 + i) rfl (i_rangeP (P := fun _ => True) B.range (e_take T hr1 (e_v 0) e_int ⟨by decide, by decide⟩ (by omega)) (by decide)) (pg_name (i := 7) S_l_table.nd rfl (.inl rfl)) (fun _ _ x _ => tg_name 7 _)
      (fun xs hx => ⟨M, ⟨hM, hl28⟩, WkL.refl _⟩) ?_ (fun xs ⟨r, hr, e⟩ => by rw [e, List.length_range]; omega) PassesOwn.never) ?_
    · clear hM hl28 w3 M
      rintro xs ⟨r9, hr9, rfl⟩ i x M hx ⟨hM, hl⟩
      have hi9 : i < 9 := by
        have := (List.getElem?_eq_some_iff.mp hx).1
        rw [List.length_range] at this
        omega
      refine pp_to [.is (Is (.ref p)), .is (GrpIs K ks look), .own (M.map mkD), .is (Dat K (.int r)), .no, .no, .is (Dat K (.list (ME.map mkD))), .is (Dat K (.int (x : Nat)))] ?_
      refine pp_nx (pp_one (q_app 2 rfl (e_of O hr (e_v 0) (l_dat (e_v 6)) (by rw [List.length_map]; exact h0) (by rw [List.length_map]; omega) (by omega)) (by rw [List.length_map]; omega))) ?_
      rintro c5 e ⟨rfl, d, hd, rfl⟩
      obtain ⟨m, hm, rfl⟩ := mem_mks hd
      refine ⟨by omega, M ++ [m], ⟨fun m' hm' => ?_, by rw [List.length_append, List.length_singleton]; omega⟩, ?_⟩
      · rcases List.mem_append.mp hm' with z | z
        · exact hM m' z
        · rw [List.mem_singleton.mp z]; exact hME.1 m hm
      · rw [List.map_append]
        exact .same (.same (.same (.same (.same (.same (.same (.drop .nil)))))))
    clear hM hl28 w3 M
    rintro c5 e ⟨rfl, xs, ⟨r9, hr9, rfl⟩, M, ⟨hM, hl⟩, w5⟩
    have hl36 : M.length ≤ 36 := by rw [List.length_range] at hl; omega
    clear hl
    refine pp_pre (Nat.le_refl _) w5 ?_
    refine pp_to [.is (Is (.ref p)), .is (GrpIs K ks look), .own (M.map mkD), .is (Dat K (.int r)), .no, .no, .is (Dat K (.list (ME.map mkD))), .no] ?_
    refine pp_cons (q_forA (k := 1) (n := 3) (α := List Mk) (Pxs := (· = List.range (r - 1))) (enc := fun i : Nat => .int i) (js := [7]) (φ := fun x e => e.set 7 (.is (Dat K (.int (x : Nat)))))
      (fun _ _ M => [.is (Is (.ref p)), .is (GrpIs K ks look), .own (M.map mkD), .is (Dat K (.int r)), .no, .no, .is (Dat K (.list (ME.map mkD))), .no])
      (fun _ i M => (∀ m ∈ M, m.ok = true) ∧ M.length ≤ 36) rfl (i_lift (i_exact (i_range (n := ((r - 1 : Nat) : Int)) B.range (d_cons (e_is (e_subI (e_v 3) e_int) (by rw [show ((r : Int) - 1) = ((r - 1 : Nat) : Int) by omega])) d_nil) (by omega) (by omega))) (Nat.le_refl _)) (pg_name (i := 7) S_l_table.nd rfl (.inl rfl)) (fun _ _ x _ => tg_name 7 _)
      (fun xs hx => ⟨M, ⟨hM, hl36⟩, WkL.refl _⟩) ?_ (fun xs e => by rw [e, List.length_range]; omega) PassesOwn.never) ?_
    · clear hM hl36 w5 M
      rintro xs rfl i x M hx ⟨hM, hl⟩
      have hi3 : i < 3 := by
        have := (List.getElem?_eq_some_iff.mp hx).1
        rw [List.length_range] at this
        omega
      refine pp_to [.is (Is (.ref p)), .is (GrpIs K ks look), .own (M.map mkD), .is (Dat K (.int r)), .no, .no, .is (Dat K (.list (ME.map mkD))), .is (Dat K (.int (x : Nat)))] ?_
      refine pp_one (q_if (t_lift (t_ne hu (e_o 2) (e_trk (e_lst d_nil)) (shaped_of (shd_lst (shd_map M shd_mk)) (by decide)) (shaped_of (n := 1) (shd_lst (by simp)) (by decide)) (nomark _)) (Nat.le_refl _)) (fun ht => ?_) (fun _ => ?_))
      · have hM0 : 0 < M.length := by
          cases M with
          | nil => simp [PyData.eqv, PyData.eqvAll] at ht
          | cons _ _ => exact Nat.succ_pos _
        refine pp_nx (pp_one (q_rem 2 hu rfl (e_of O hr (e_v 0) (l_own 2) (by rw [List.length_map]; exact hM0) (by rw [List.length_map]; omega) (by omega)) (fun d hd => by
          obtain ⟨m, _, rfl⟩ := mem_mks hd
          exact mk_ok3 m))) ?_
        rintro c6 e ⟨rfl, j, rfl⟩
        refine ⟨by omega, M.eraseIdx j, ⟨fun m hm => hM m (List.mem_of_mem_eraseIdx hm), Nat.le_trans (List.length_eraseIdx_le M j) hl⟩, ?_⟩
        rw [erase_mks]
        exact .same (.same (.same (.same (.same (.same (.same (.drop .nil)))))))
      · refine pp_nx pp_nil ?_
        rintro c6 e ⟨rfl, rfl⟩
        exact ⟨by omega, M, ⟨hM, hl⟩, .same (.same (.same (.same (.same (.same (.same (.drop .nil)))))))⟩
    clear hM hl36 w5 M
    rintro c6 e ⟨rfl, xs, rfl, M, ⟨hM, hl⟩, w6⟩
    refine pp_pre (Nat.le_refl _) w6 ?_
    refine pp_to [.is (Is (.ref p)), .is (GrpIs K ks look), .own (M.map mkD), .is (Dat K (.int r)), .no, .no, .is (Dat K (.list (ME.map mkD))), .no] ?_
    exact q_retc (e_wkP (e_tup2P (e_lift (e_tupleG B.tuple (e_ssMk rfl hu B.sorted B.set (e_lsdT (e_o 2)) (by omega))) (Nat.le_refl _)) (e_eqP hu (e_anInt (e_take T hr1 (e_v 0) e_int ⟨by decide, by decide⟩ (by omega)) (fun d ⟨r, e, _⟩ => ⟨r, e⟩)) e_int (nomark _))) (by
      rintro F H v _ ⟨d, ⟨d1, d2, ⟨ds, ⟨M', h1, h2, rfl⟩, rfl⟩, ⟨b, rfl, _⟩, rfl⟩, r⟩
      exact ⟨_, ⟨M', b, ⟨fun m hm => hM m (h1 m hm), by omega⟩, rfl⟩, r⟩)) (by omega)
end Sr
/-! for least: raw slots, get, len of a dict of nested keys, the measure, what is carried -/
namespace Sr
open PySem PySem.Spec PyProof.Rows L2 Dl Sb Nd
section
variable {K : PySem.W.Frag} {F H : Hp}
/-- slots told by words, none of them owned -/
inductive RS (K : PySem.W.Frag) (F H : Hp) : List Ent → L2.St → Prop
  | nil : RS K F H [] []
  | no {es : List Ent} {σ : L2.St} {o : Option V} (t : RS K F H es σ) : RS K F H (.no :: es) (o :: σ)
  | is {es : List Ent} {σ : L2.St} {R : Rel} {v : V} (m : PerR R) (r : R F H v) (t : RS K F H es σ) : RS K F H (.is R :: es) (some v :: σ)
theorem RS.len : ∀ {es : List Ent} {σ : L2.St}, RS K F H es σ → es.length = σ.length
  | _, _, .nil => rfl
  | _, _, .no t => congrArg (· + 1) t.len
  | _, _, .is _ _ t => congrArg (· + 1) t.len
theorem RS.ok : ∀ {es : List Ent} {σ : L2.St}, RS K F H es σ → ∀ (i : Nat) (e : Ent), es[i]? = some e → SlotOk K H F H σ[i]? e ∧ ∀ ds, e ≠ .own ds
  | _, _, .nil, i, e, h => by simp at h
  | _, _, .no t, 0, e, h => by
    cases Option.some.inj h
    exact ⟨trivial, fun ds z => by cases z⟩
  | _, _, .is m r t, 0, e, h => by
    cases Option.some.inj h
    exact ⟨⟨m, _, rfl, r⟩, fun ds z => by cases z⟩
  | _, _, .no t, i + 1, e, h => t.ok i e h
  | _, _, .is m r t, i + 1, e, h => t.ok i e h
theorem RS.sv {es : List Ent} {σ : L2.St} (r : RS K F H es σ) (s : Same F H) : Sv K es F H F H σ :=
  ⟨s, Grow.refl s, r.len, fun i e h => (r.ok i e h).1, fun i j ds ds' _ h1 _ => absurd rfl ((r.ok i _ h1).2 ds)⟩
end
section
variable {X : Cx}
/-- d.get(k, x), told by the key -/
def tGetP (P : Program) (w : World) (K : PySem.W.Frag) (td ty tx : TE) : TE := fun σ H Q => td σ H fun x H1 => ∃ p, x = .ref p ∧ (∃ xs, H1 p = some (ndO P w p xs)) ∧ ty σ H1 fun y H2 => tx σ H2 fun z H3 =>
  ∃ (a : Addr) (d : PyData) (xs : Rows), y = .ref a ∧ Dp K H3 (.ref a) d ∧ keyable d = true ∧ d.depth ≤ 8 ∧ H3 p = some (ndO P w p xs) ∧ Keys K H3 xs ∧ (∀ b u, atKey xs (nk d) = some (b, u) → ∃ v, RelV v u) ∧ ∀ v, ((atKey xs (nk d) = none ∧ v = z) ∨ ∃ b u, atKey xs (nk d) = some (b, u) ∧ RelV v u) → Q v H3
theorem pe_getP {o e f : Expr} {apos cpos : Pos} {td ty tx : TE} (hu : X.A.units + 9 < cLine) (ho : PE X o td) (he : PE X e ty) (hf : PE X f tx) (m : M2 X o "get" apos e f cpos) : PE X (.Call (.Attribute o "get" apos) [e, f] [] cpos) (tGetP X.prog X.w X.K td ty tx) := by
  refine ⟨fun pins s σ H Q I h => ?_⟩
  refine wpAny_Call_method m.base m.few m.line PySem.F.plainAttrs_dict PySem.F.slot_dict_get PySem.F.type_dict_get (thn (ho.run pins s σ H _ I h) fun u s1 ⟨x, H1, I1, rx, p, ex, ⟨xs0, hp0⟩, q1⟩ => ?_)
  subst ex
  obtain rfl : u = Value.ref p := rx
  obtain ⟨⟨ob, es, ep, h1, h2, h3, _⟩, _⟩ := (show ObjOk X.prog X.w H1 s1.heap p (ndO X.prog X.w p xs0) from I1.hok p _ hp0)
  refine ⟨⟨ob, h1, h2.1⟩, fun b z => by cases z; exact ⟨ob, h1, h2.2.1⟩, ?_⟩
  rw [m.trees]
  refine Calls.callWith_builtin rfl (Calls.evalArgs_plain (Calls.spliced_cons (thn (he.run pins s1 σ H1 _ I1 q1) fun iv s2 ⟨y, H2, I2, ry, q2⟩ =>
    Calls.spliced_cons (thn (hf.run pins s2 σ H2 _ I2 q2) fun fv s3 ⟨z, H3, I3, rz, a, d, xs, ey, hd, hk, h8, e3, ks, qe, qq⟩ => Calls.spliced_nil ?_))))
  subst ey
  cases ry
  refine get_nd hu I3 hd hk h8 e3 ks fun s4 I4 => ?_
  cases hat : atKey xs (nk d) with
  | none => exact ⟨z, H3, I4, rz, qq z (.inl ⟨hat, rfl⟩)⟩
  | some q =>
    obtain ⟨v, rv⟩ := qe q.1 q.2 hat
    exact ⟨v, H3, I4, rv, qq v (.inr ⟨q.1, q.2, hat, rv⟩)⟩
/-- len(d) -/
theorem call_lenND : CallR X (.builtin "len") (fun vs H Q => ∃ (p : Addr) (xs : Rows), vs = [.ref p] ∧ H p = some (ndO X.prog X.w p xs) ∧ Keys X.K H xs ∧ xs.length ≤ 1000 ∧ Q (.int (xs.length : Nat)) H) := by
  intro pins s σ H vs us Q I r h
  obtain ⟨p, xs, rfl, e, ks, hz, q⟩ := h
  obtain ⟨u, rfl, rx⟩ := vals1 r
  cases rx
  obtain ⟨m, hs⟩ := dict_at I e ks
  have mk : s.heap.DictKeyed (nestedKind X.prog X.w) p (pairsH xs) := ⟨xs, m, rfl⟩
  have hl : (pairsH xs).length = xs.length := by unfold pairsH; rw [List.length_map]
  refine PyProof.Rows.call_len_slot (n := ((pairsH xs).length : Nat)) mk.typeIs PySem.F.slot_dict_len (fun Q' hq => len_keyed hs mk hq) (by omega) (by rw [hl]; omega) ?_
  rw [hl]
  exact ⟨.int (xs.length : Nat), H, (I.tok _).tok _, ⟨_, rfl⟩, q⟩
end
/-! ### the measure -/
def valN : Value → Nat
  | .int m _ => m.toNat
  | _ => 0
def sumR (xs : Rows) : Nat := (xs.map fun x => valN x.2.2).sum
def phi (xs : Rows) : Nat := 6 * (300 - xs.length) + sumR xs
theorem atKey_nil {xs : Rows} {k : NestedKey} (h : atKey xs k = none) : k ∉ xs.map (·.1) := fun hk => by
  obtain ⟨x, hx, e⟩ := List.mem_map.mp hk
  unfold atKey at h
  have := List.find?_eq_none.mp (Option.map_eq_none_iff.mp h) x hx
  exact this (decide_eq_true e)
theorem nodup_put {xs : Rows} (hn : (xs.map (·.1)).Nodup) (k : NestedKey) (a : Addr) (v : Value) : ((storedH xs k a v).map (·.1)).Nodup := by
  cases h : atKey xs k with
  | none =>
    rw [storedH_new h, List.map_append]
    exact List.nodup_append.mpr ⟨hn, by simp, fun b hb c hc z => atKey_nil h (by
      have : c = k := List.mem_singleton.mp hc
      rw [← this, ← z]; exact hb)⟩
  | some q =>
    rw [storedH_old h, keys_map_putAt]
    exact hn
theorem sum_putAt {k : NestedKey} {v : Value} : ∀ {xs : Rows} {b : Addr} {u : Value}, (xs.map (·.1)).Nodup → atKey xs k = some (b, u) → sumR (xs.map (putAt k v)) + valN u = sumR xs + valN v
  | [], b, u, _, h => by cases h
  | x :: xs, b, u, hn, h => by
    rw [List.map_cons, List.nodup_cons] at hn
    have ecx : sumR (x :: xs) = valN x.2.2 + sumR xs := by unfold sumR; rw [List.map_cons, List.sum_cons]
    have ecp : sumR ((x :: xs).map (putAt k v)) = valN (putAt k v x).2.2 + sumR (xs.map (putAt k v)) := by unfold sumR; rw [List.map_cons, List.map_cons, List.sum_cons]
    rw [ecx, ecp]
    by_cases e : x.1 = k
    · have hx : atKey (x :: xs) k = some x.2 := by unfold atKey; rw [List.find?_cons, decide_eq_true e]; rfl
      rw [hx] at h
      have eu : u = x.2.2 := (congrArg Prod.snd (Option.some.inj h)).symm
      have er : xs.map (putAt k v) = xs := map_putAt_of_not_mem xs k v (by rw [← e]; exact hn.1)
      have ep : (putAt k v x).2.2 = v := by unfold putAt; rw [if_pos e]
      rw [er, ep, eu]
      omega
    · have hx : atKey (x :: xs) k = atKey xs k := by unfold atKey; rw [List.find?_cons, decide_eq_false e]
      rw [hx] at h
      have ih := sum_putAt (v := v) hn.2 h
      have ep : (putAt k v x).2.2 = x.2.2 := by unfold putAt; rw [if_neg e]
      rw [ep]
      omega
/-- a better value -/
theorem phi_put {xs : Rows} {k : NestedKey} {a : Addr} {m : Nat} {t : Tok} (hn : (xs.map (·.1)).Nodup) (hl : xs.length < 300) (hm : m ≤ 5) (h : atKey xs k = none ∨ ∃ b n t', atKey xs k = some (b, .int (n : Nat) t') ∧ m < n) :
    phi (storedH xs k a (.int (m : Nat) t)) + 1 ≤ phi xs ∧ (storedH xs k a (.int (m : Nat) t)).length ≤ 300 := by
  have ev : ∀ (n : Nat) (t : Tok), valN (.int (n : Nat) t) = n := fun n t => Int.toNat_natCast n
  unfold phi
  rcases h with h | ⟨b, n, t', h, hmn⟩
  · rw [storedH_new h]
    have e : sumR (xs ++ [(k, a, .int (m : Nat) t)]) = sumR xs + m := by
      unfold sumR
      rw [List.map_append, List.sum_append, List.map_cons, List.map_nil, List.sum_cons, List.sum_nil, ev]
      rfl
    rw [e, List.length_append, List.length_singleton]
    omega
  · rw [storedH_old h]
    have e := sum_putAt (v := .int (m : Nat) t) hn h
    rw [ev, ev] at e
    rw [List.length_map]
    omega
theorem val_put {xs : Rows} {k : NestedKey} {a : Addr} {v : Value} {p : Value → Prop} (h : ∀ x ∈ xs, p x.2.2) (hv : p v) : ∀ x ∈ storedH xs k a v, p x.2.2 := fun x hx => by
  unfold storedH at hx
  split at hx
  · obtain ⟨y, hy, rfl⟩ := List.mem_map.mp hx
    unfold putAt
    split
    · exact hv
    · exact h y hy
  · rcases List.mem_append.mp hx with z | z
    · exact h x z
    · rw [List.mem_singleton.mp z]; exact hv
/-! ### the least numbers -/
def Low (M : List Mk) (rs : Bool) (kvs : List (Key × V)) : Prop := ∀ x ∈ kvs, ∃ (wd : Word) (m f : Nat), x.1 = .inr (wS wd) ∧ x.2 = .int m ∧ fewest M rs wd = some f ∧ f ≤ m
theorem Low.put {M : List Mk} {rs : Bool} {kvs : List (Key × V)} (h : Low M rs kvs) {wd : Word} {m f : Nat} (hf : fewest M rs wd = some f) (hm : f ≤ m) : Low M rs (putK kvs (.inr (wS wd)) (.int m)) := fun x hx => by
  unfold putK at hx
  split at hx
  · obtain ⟨y, hy, rfl⟩ := List.mem_map.mp hx
    split
    · rename_i e
      exact ⟨wd, m, f, e, rfl, hf, hm⟩
    · exact h y hy
  · rcases List.mem_append.mp hx with z | z
    · exact h x z
    · rw [List.mem_singleton.mp z]
      exact ⟨wd, m, f, rfl, rfl, hf, hm⟩
theorem Low.val {M : List Mk} {rs : Bool} {kvs : List (Key × V)} (h : Low M rs kvs) {wd : Word} {v : V} (e : valV kvs (.inr (wS wd)) = some v) : ∃ m f : Nat, v = .int m ∧ fewest M rs wd = some f ∧ f ≤ m := by
  unfold valV at e
  obtain ⟨x, hx, ev⟩ := Option.map_eq_some_iff.mp e
  obtain ⟨wd', m, f, e1, e2, e3, e4⟩ := h x (List.mem_of_find?_eq_some hx)
  have ek : x.1 = .inr (wS wd) := by simpa using List.find?_some hx
  rw [e1] at ek
  have ew : wd' = wd := wS_inj (Sum.inr.inj ek)
  subst ew
  exact ⟨m, f, by rw [← ev, e2], e3, e4⟩
def LowR (M : List Mk) (rs : Bool) : Rel := fun F _ v => ∃ d kvs, v = .ref d ∧ F d = some (.dK kvs) ∧ Low M rs kvs
instance {M : List Mk} {rs : Bool} : PerR (LowR M rs) := ⟨fun _ _ _ _ _ g ⟨d, kvs, e, h, l⟩ => ⟨d, kvs, e, g _ _ h, l⟩⟩
/-! ### what is carried -/
structure LsI (P : Program) (w : World) (K : PySem.W.Frag) (M : List Mk) (rs : Bool) (p d1 d2 l : Addr) (F0 H0 F H : Hp) (c : Nat) (us : List V) (qs : List (Nat × Sta)) (kvs : List (Key × V)) (xs : Rows) : Prop where
  g : Grow F0 (wo p H0) F (wo p H)
  pa : PotAt p c H
  h1 : H d1 = some (.dK kvs)
  h2 : H d2 = some (ndO P w d2 xs)
  hl : H l = some (.lst us)
  n1 : F d1 = none
  n2 : F d2 = none
  nl : F l = none
  da : DpAll K F us (qs.map quD)
  ks : Keys K F xs
  nd : (xs.map (·.1)).Nodup
  x3 : xs.length ≤ 300
  vals : ∀ x ∈ xs, ∃ (m : Nat) (t : Tok), x.2.2 = .int m t
  got : ∀ q ∈ qs, q.1 ≤ 5 ∧ Got (tabOf M rs) q.1 q.2
  low : Low M rs kvs
/-- what does not change: the places -/
structure LsZ (p d1 d2 l : Addr) (H0 : Hp) : Prop where
  hp : H0 p ≠ none
  z1 : H0 d1 = none
  z2 : H0 d2 = none
  zl : H0 l = none
theorem LsZ.p1 {p d1 d2 l : Addr} {H0 : Hp} (z : LsZ p d1 d2 l H0) : d1 ≠ p ∧ d2 ≠ p ∧ l ≠ p := ⟨fun e => z.hp (e ▸ z.z1), fun e => z.hp (e ▸ z.z2), fun e => z.hp (e ▸ z.zl)⟩
section
variable {P : Program} {w : World} {K : PySem.W.Frag} {M : List Mk} {rs : Bool} {p d1 d2 l : Addr} {F0 H0 F H F' H' : Hp} {c c' : Nat} {us : List V} {qs : List (Nat × Sta)} {kvs : List (Key × V)} {xs : Rows}
theorem LsI.sw (L : LsI P w K M rs p d1 d2 l F0 H0 F H c us qs kvs xs) : Same F (wo p H) := L.g.fh
theorem LsI.sf (L : LsI P w K M rs p d1 d2 l F0 H0 F H c us qs kvs xs) : Same F H := L.g.fh.trans (wo_sub p H)
theorem LsI.np (L : LsI P w K M rs p d1 d2 l F0 H0 F H c us qs kvs xs) : F p = none := same_free L.g.fh
theorem LsI.ne (L : LsI P w K M rs p d1 d2 l F0 H0 F H c us qs kvs xs) : d1 ≠ d2 ∧ d1 ≠ l ∧ d2 ≠ l :=
  ⟨ne_of L.h1 L.h2 (by intro z; cases z), ne_of L.h1 L.hl (by intro z; cases z), ne_of L.h2 L.hl (by intro z; cases z)⟩
/-- the heap grows beside the pot, the pot may change -/
theorem LsI.growP (L : LsI P w K M rs p d1 d2 l F0 H0 F H c us qs kvs xs) (Z : LsZ p d1 d2 l H0) (g : Grow F (wo p H) F' (wo p H')) (pa : PotAt p c' H') : LsI P w K M rs p d1 d2 l F0 H0 F' H' c' us qs kvs xs := by
  obtain ⟨p1, p2, p3⟩ := Z.p1
  have up : ∀ {b : Addr} {o : HO}, b ≠ p → H b = some o → H' b = some o ∧ (F b = none → F' b = none) := fun {b o} hb e => by
    have e1 : wo p H b = some o := by rw [wo_ne hb]; exact e
    exact ⟨(wo_some (g.hh _ _ e1)).2, fun z => g.nw b z (by rw [e1]; exact fun y => by cases y)⟩
  exact ⟨L.g.trans g, pa, (up p1 L.h1).1, (up p2 L.h2).1, (up p3 L.hl).1, (up p1 L.h1).2 L.n1, (up p2 L.h2).2 L.n2, (up p3 L.hl).2 L.nl, dpAll_mono g.ff _ _ L.da, keys_mono g.ff L.ks, L.nd, L.x3, L.vals, L.got, L.low⟩
theorem LsI.grow (L : LsI P w K M rs p d1 d2 l F0 H0 F H c us qs kvs xs) (Z : LsZ p d1 d2 l H0) (g : Grow F H F' H') : LsI P w K M rs p d1 d2 l F0 H0 F' H' c us qs kvs xs :=
  L.growP Z (grow_wo L.sw L.pa.some g) (L.pa.keep g.hh)
/-- the list is changed -/
theorem LsI.setL (L : LsI P w K M rs p d1 d2 l F0 H0 F H c us qs kvs xs) (Z : LsZ p d1 d2 l H0) {us' : List V} {qs' : List (Nat × Sta)} (da : DpAll K F us' (qs'.map quD)) (got : ∀ q ∈ qs', q.1 ≤ 5 ∧ Got (tabOf M rs) q.1 q.2) :
    LsI P w K M rs p d1 d2 l F0 H0 F (upd H l (.lst us')) c us' qs' kvs xs := by
  obtain ⟨p1, p2, p3⟩ := Z.p1
  obtain ⟨e1, e2, e3⟩ := L.ne
  exact ⟨grow_wo_mut L.g Z.zl L.nl Z.hp, PotAt.upd L.pa p3, by rw [upd_ne e2]; exact L.h1, by rw [upd_ne e3]; exact L.h2, upd_same, L.n1, L.n2, L.nl, da, L.ks, L.nd, L.x3, L.vals, got, L.low⟩
/-- a row of the known ones is stored -/
theorem LsI.setK (L : LsI P w K M rs p d1 d2 l F0 H0 F H c us qs kvs xs) (Z : LsZ p d1 d2 l H0) {a : Addr} {s : Sta} {m : Nat} {t : Tok} (hd : Dp K F (.ref a) (staD s)) (hk : keyable (staD s) = true) (h8 : (staD s).depth ≤ 8) (h3 : (storedH xs (nk (staD s)) a (.int (m : Nat) t)).length ≤ 300) :
    LsI P w K M rs p d1 d2 l F0 H0 F (upd H d2 (ndO P w d2 (storedH xs (nk (staD s)) a (.int (m : Nat) t)))) c us qs kvs (storedH xs (nk (staD s)) a (.int (m : Nat) t)) := by
  obtain ⟨p1, p2, p3⟩ := Z.p1
  obtain ⟨e1, e2, e3⟩ := L.ne
  exact ⟨grow_wo_mut L.g Z.z2 L.n2 Z.hp, PotAt.upd L.pa p2, by rw [upd_ne e1]; exact L.h1, upd_same, by rw [upd_ne (Ne.symm e3)]; exact L.hl, L.n1, L.n2, L.nl, L.da, keys_put (Same.refl F) L.ks hd hk h8, nodup_put L.nd _ _ _, h3,
    val_put (p := fun v => ∃ (m : Nat) (t : Tok), v = .int m t) L.vals ⟨m, t, rfl⟩, L.got, L.low⟩
/-- a least number is stored -/
theorem LsI.setW (L : LsI P w K M rs p d1 d2 l F0 H0 F H c us qs kvs xs) (Z : LsZ p d1 d2 l H0) {kvs' : List (Key × V)} (low : Low M rs kvs') :
    LsI P w K M rs p d1 d2 l F0 H0 F (upd H d1 (.dK kvs')) c us qs kvs' xs := by
  obtain ⟨p1, p2, p3⟩ := Z.p1
  obtain ⟨e1, e2, e3⟩ := L.ne
  exact ⟨grow_wo_mut L.g Z.z1 L.n1 Z.hp, PotAt.upd L.pa p1, upd_same, by rw [upd_ne (Ne.symm e1)]; exact L.h2, by rw [upd_ne (Ne.symm e2)]; exact L.hl, L.n1, L.n2, L.nl, L.da, L.ks, L.nd, L.x3, L.vals, L.got, low⟩
end
theorem keyable_nats {ι : Type} {f : ι → PyData} (h : ∀ x, keyable (f x) = true) : ∀ xs : List ι, keyables (xs.map f) = true
  | [] => rfl
  | x :: xs => by
    show (keyable (f x) && keyables (xs.map f)) = true
    rw [h x, keyable_nats h xs]
    rfl
theorem keyable_sta (s : Sta) : keyable (staD s) = true := by
  have ho : ∀ o : Option Nat, keyable (oD o) = true := fun o => by cases o <;> rfl
  have h1 : keyable (.tuple (s.slots.map rowD)) = true := keyable_nats (f := rowD) (fun r => keyable_nats (f := oD) ho r) _
  have h2 : keyable (.tuple (s.col.map cD)) = true := keyable_nats (f := cD) (fun _ => rfl) _
  have h3 : keyable (.tuple (s.held.map hrowD)) = true := keyable_nats (f := hrowD) (fun r => keyable_nats (f := nD) (fun _ => rfl) r) _
  have h4 : keyable (.tuple (s.sc.map .bool)) = true := keyable_nats (f := PyData.bool) (fun _ => rfl) _
  show (keyable (.int s.w) && (keyable (.tuple (s.slots.map rowD)) && (keyable (.tuple (s.col.map cD)) && (keyable (.tuple (s.held.map hrowD)) && (keyable (.tuple (s.sc.map .bool)) && true))))) = true
  rw [h1, h2, h3, h4]
  rfl
theorem depth_sta (s : Sta) : (staD s).depth ≤ 8 := Nat.le_trans (shd_sta s).2 (by decide)
theorem got_start {h : HeapI} (o : h.Ok) (T : Tab) : Got T 0 (startS h.w h.slots h.held) := by
  refine ⟨o.start, .start (fun x => ?_) (fun t => ?_)⟩
  · show (List.replicate h.slots.length C.white)[x]? = none ∨ (List.replicate h.slots.length C.white)[x]? = some .white
    rw [List.getElem?_replicate]
    split
    · exact .inr rfl
    · exact .inl rfl
  · show (List.replicate h.held.length false).getD t false = false
    rw [List.getD_eq_getElem?_getD, List.getElem?_replicate]
    split <;> rfl
end Sr
/-! least -/
namespace Sr
open PySem PySem.Spec PyProof.Rows L2 Dl Sb Nd
variable {P : Program} {w : World} {mg : Str → Option Value} {base : Heap} {K : PySem.W.Frag}
structure LeaI where
  M : List Mk
  rs : Bool
  h : HeapI
abbrev FLater (P : Program) (w : World) (K : PySem.W.Frag) (mg : Str → Option Value) (base : Heap) : Prop := FnAt P w K mg base 4 "_law_later" (spP K 8 LatI.Ok (fun i => [Dat K (tabD i.M i.rs), Dat K (nD i.k), Dat K (staD i.s)]) (RLat K))
abbrev FLeast (P : Program) (w : World) (K : PySem.W.Frag) (mg : Str → Option Value) (base : Heap) : Prop := FnAt P w K mg base 5 "_law_least" (spP K 130000 (fun i : LeaI => MksOk i.M ∧ i.h.Ok) (fun i => [Dat K (tabD i.M i.rs), Dat K (heapD i.h)]) (fun i => LowR i.M i.rs))
theorem shd_qu (q : Nat × Sta) : Shd 5 (quD q) := shd_tup fun d hd => by
  simp only [List.mem_cons, List.not_mem_nil, or_false] at hd
  rcases hd with rfl | rfl
  · exact shd_mono (shd_int _) (by decide)
  · exact shd_sta _
theorem qs_nil_eq (qs : List (Nat × Sta)) : (!PyData.eqv (.list (qs.map quD)) (.list [])) = !decide (qs = []) := by cases qs <;> simp [PyData.eqv, PyData.eqvAll]
/-- between two turns -/
def LsW (P : Program) (w : World) (K : PySem.W.Frag) (M : List Mk) (rs : Bool) (p d1 d2 l : Addr) (F0 H0 : Hp) (c0 : Nat) (vt vh : V) : Nat → L2.St → Hp → Prop := fun m σ H => ∃ F c n us qs kvs xs, ∃ o6 o7 o8 : Option V, m = 61 * phi xs + qs.length ∧
  σ = [some (.ref p), some vt, some vh, some (.ref d1), some (.ref d2), some (.ref l), o6, o7, o8] ∧ LsI P w K M rs p d1 d2 l F0 H0 F H c us qs kvs xs ∧ Same F0 F ∧ c + 8 * phi xs ≤ c0 + n + 14400 ∧ n + (61 * phi xs + qs.length) ≤ 109801 ∧ kvs.length ≤ 6 * n
theorem erase_qu (qs : List (Nat × Sta)) (j : Nat) : (qs.map quD).eraseIdx j = (qs.eraseIdx j).map quD := by
  induction qs generalizing j with
  | nil => rfl
  | cons m M ih => cases j with
    | zero => rfl
    | succ j => exact congrArg (quD m :: ·) (ih j)
set_option maxHeartbeats 1000000 in
theorem f_least (B : Bi mg) (D : DefAt K mg "_law_least" s_l_least) (T : FnAt P w K mg base 1 "_law_take" spTake) (FS : FStart P w K mg base) (FW : FWords P w K mg base) (FH : FHas P w K mg base) (FL : FLater P w K mg base) : FLeast P w K mg base := by
  obtain ⟨f, fd, F, hm⟩ := D
  obtain ⟨ft, fdt, pst, FT, hmt, kt, bt⟩ := T.ex
  obtain ⟨fh, fdh, psh, FHk, hmh, kh, bh⟩ := FH.ex
  obtain ⟨fl, fdl, psl, FLk, hml, kl, bl⟩ := FL.ex
  refine ⟨f, fd, P_l_least, F.ok S_l_least (fun vs H Q E h => ?_) (fun cdv A outer s H vs Q E hr h => ?_), hm, F.kp, F.binds fun _ _ _ _ _ _ us hl => match us, hl with | [_, _, _], _ => rfl⟩
  · obtain ⟨i, p, c, F1, vs', rfl, _, _, _, _, hv, _⟩ := h
    rw [List.length_cons, valsR_len hv]
    rfl
  obtain ⟨⟨M, rs, hp⟩, p, c0, F0, vs', rfl, ⟨hM, ho⟩, hc, pa, sF, hv, kk⟩ := h
  have hM : MksOk M := hM
  have ho : hp.Ok := ho
  obtain ⟨vt, vh, rfl, rt, rh⟩ : ∃ vt vh, vs' = [vt, vh] ∧ Dat K (tabD M rs) F0 (wo p H) vt ∧ Dat K (heapD hp) F0 (wo p H) vh := by
    match vs', hv with
    | [vt, vh], ⟨h1, h2, _⟩ => exact ⟨vt, vh, rfl, h1, h2⟩
  have nd := S_l_least.nd
  have hu := hu64 hr
  have hr1 := hr.mono (show 1 ≤ 4 by decide)
  have hr2 := hr.mono (show 2 ≤ 4 by decide)
  have hu1 : (A.deeper (envOfC "_law_least" (defScope s_l_least) s.heap.objs.size f cdv)).units + 1 < cLine := by omega
  have hu9 : (A.deeper (envOfC "_law_least" (defScope s_l_least) s.heap.objs.size f cdv)).units + 9 < cLine := by omega
  refine ⟨_, pss_cons (ps_par3 (i := 3) (j := 4) (l := 5) rfl nd rfl rfl rfl (by decide) (by decide) (by decide) rfl rfl rfl
      (pa_cons pe_dnewK (pa_cons pe_new (pa_cons (e_lst (K := K) (es := [.no, .no, .is (Dat K (heapD hp)), .no, .no, .no, .no, .no, .no]) (d_cons (e_tup (d_cons e_int (d_cons (e_call FS hp ⟨by have := ho.n1; omega, by have := ho.n2; omega, ho.lh⟩ hr1 (a_cons (e_v 2) a_nil)) d_nil))) d_nil)) pa_nil))) rfl)
    (pss_cons (ps_while PassesOwn.never (PW.pt (pw_and (pt_cmpR (op_neD hu) (pv 5) (pe_lst pa_nil) (nomark _)) (pw_and1 (pt_cmpR op_lt (pe_callB call_lenND (by rfl) B.len PySem.boot_len (pa_cons (pv 4) pa_nil)) pe_int (nomark _)))))
      (pss_cons (ps_asg (pe_bm PySem.F.plainAttrs_list PySem.F.slot_list_pop PySem.F.type_list_pop mt_popAt (pv 5) (pa_cons (pe_call FT hr1 (by rfl) hmt kt bt .nil pass0 (pa_cons (pv 0) (pa_cons (pe_callB call_len_seq (by rfl) B.len PySem.boot_len (pa_cons (pv 5) pa_nil)) pa_nil))) pa_nil))
        (pg_tup rfl (pgs_cons (pg_name (i := 6) nd rfl (.inl rfl)) (pgs_cons (pg_name (i := 7) nd rfl (.inl rfl)) pgs_nil))))
      (pss_one (ps_if (pt_cmpR op_gt (pe_getP hu9 (pv 4) (pv 7) pe_int ⟨rfl, rfl, rfl, rfl⟩) (pv 6) (nomark _))
        (pss_cons (ps_asg (pv 6) (pg_sub (pv 4) (pv 7) (set_nd hu9)))
        (pss_cons (ps_for PassesOwn.never rfl (i_lst (es := [.no, .no, .no, .no, .no, .no, .no, .no, .no]) (e_call0 FW () trivial hr1)) (pg_name (i := 8) nd rfl (.inl rfl))
          (pss_one (ps_if (PW.pt (pw_and (pt_cmpR op_gt (pe_dget2 hu1 (pv 3) (pv 8) pe_int ⟨rfl, rfl, rfl, rfl⟩) (pv 6) (nomark _)) (pw_and1 (pt_not (pt_val (pe_call FHk hr2 (by rfl) hmh kh bh .nil pass0 (pa_cons (pe_ix ix_tup (pv 1) pe_int (fun _ _ => rfl)) (pa_cons (pv 7) (pa_cons (pv 8) pa_nil)))))))))
            (pss_one (ps_dput hu1 (pv 3) (pv 8) (pv 6) rfl)) pss_nil)))
        (pss_one (ps_expr (pe_bm PySem.F.plainAttrs_list PySem.F.slot_list_extend PySem.F.type_list_extend mt_extend (pv 5) (pa_cons (pe_call FLk hr (by rfl) hml kl bl .nil pass0 (pa_cons (pv 0) (pa_cons (pv 1) (pa_cons (pv 6) (pa_cons (pv 7) pa_nil))))) pa_nil))))))
        pss_nil))))
    (pss_one (ps_ret (pv 3)))), ?_⟩
  refine fun d1 q1 => fun d2 q2 => ?_
  have pd1 : d1 ≠ p := fun e => pa.some (e ▸ q1)
  have q20 : H d2 = none := by
    have e : d2 ≠ d1 := fun e => by rw [e, upd_same] at q2; cases q2
    rwa [upd_ne e] at q2
  have g1 : Grow F0 (wo p H) F0 (wo p (upd H d1 (.dK []))) := grow_wo_newH sF q1 pa.some
  have pa1 : PotAt p c0 (upd H d1 (.dK [])) := PotAt.upd pa pd1
  have g2 := g1.trans (grow_wo_newH (o := ndO P w d2 []) g1.fh q2 pa1.some)
  have pd2 : d2 ≠ p := fun e => pa.some (e ▸ q20)
  have pa2 : PotAt p c0 (upd (upd H d1 (.dK [])) d2 (ndO P w d2 [])) := PotAt.upd pa1 pd2
  have h1 : (upd (upd H d1 (.dK [])) d2 (ndO P w d2 [])) d1 = some (.dK []) := by
    rw [upd_ne (fun e => by rw [← e, upd_same] at q2; cases q2), upd_same]
  have h2 : (upd (upd H d1 (.dK [])) d2 (ndO P w d2 [])) d2 = some (ndO P w d2 []) := upd_same
  have sf2 : Same F0 (upd (upd H d1 (.dK [])) d2 (ndO P w d2 [])) := g2.fh.trans (wo_sub p _)
  have f1 : F0 d1 = none := sF.free (by rw [wo_ne pd1]; exact q1)
  have f2 : F0 d2 = none := sF.free (by rw [wo_ne pd2]; exact q20)
  have hH2 : ∀ b, (upd (upd H d1 (.dK [])) d2 (ndO P w d2 [])) b = none → H b = none := fun b e => by
    have e2 : b ≠ d2 := fun z => by rw [z, upd_same] at e; cases e
    rw [upd_ne e2] at e
    have e1 : b ≠ d1 := fun z => by rw [z, upd_same] at e; cases e
    rwa [upd_ne e1] at e
  refine ⟨F0, _, F0, (RS.no (.no (.is inferInstance (show Dat K (heapD hp) F0 (upd (upd H d1 (.dK [])) d2 (ndO P w d2 [])) vh from rh) (.no (.no (.no (.no (.no (.no .nil))))))))).sv sf2, fun l us ds F3 H3 g3 eds ql fl hl da => ⟨_, _, _, rfl, ?_⟩⟩
  subst eds
  have Z : LsZ p d1 d2 l H := ⟨pa.some, q1, q20, hH2 l ql⟩
  have L : LsI P w K M rs p d1 d2 l F0 H F3 H3 c0 us [(0, startS hp.w hp.slots hp.held)] [] [] := by
    refine ⟨g2.trans (grow_wo g2.fh pa2.some g3), pa2.keep g3.hh, g3.hh _ _ h1, g3.hh _ _ h2, hl, g3.nw _ f1 (fun z => nomatch h1.symm.trans z), g3.nw _ f2 (fun z => nomatch h2.symm.trans z), fl, da, fun x h => (nomatch h), List.nodup_nil, Nat.zero_le _, fun x h => (nomatch h), fun q h => ?_, fun x h => (nomatch h)⟩
    rw [List.mem_singleton.mp h]
    exact ⟨Nat.zero_le _, got_start ho _⟩
  have sF3 : Same F0 F3 := g3.ff
  clear g1 g2 g3 pa1 pa2 h1 h2 sf2 hH2 f1 f2 q2 ql fl hl da q1 q20 pd1 pd2
  -- the end
  have fin : ∀ {F' H' : Hp} {c n : Nat} {us : List V} {qs : List (Nat × Sta)} {kvs : List (Key × V)} {xs : Rows}, LsI P w K M rs p d1 d2 l F0 H F' H' c us qs kvs xs → c ≤ c0 + 130000 → Q (.ref d1) H' := fun {F' H' c n us qs kvs xs} L hc' =>
    kk (.ref d1) (upd F' d1 (.dK kvs)) H' (L.pa.mono hc') (L.g.keep (by rw [wo_ne Z.p1.1]; exact Z.z1) L.n1 (by rw [wo_ne Z.p1.1]; exact L.h1)) ⟨d1, kvs, rfl, upd_same, L.low⟩
  refine ⟨LsW P w K M rs p d1 d2 l F0 H c0 vt vh, ⟨_, F3, c0, 0, us, _, [], [], none, none, none, rfl, rfl, L, sF3, by show c0 + 8 * 1800 ≤ _; omega, by show 0 + (61 * 1800 + 1) ≤ _; omega, Nat.zero_le _⟩, ?_⟩
  clear L sF3
  rintro m σ H1 ⟨F1, c, n, us, qs, kvs, xs, o6, o7, o8, rfl, rfl, L, sF1, hcn, hmn, hkn⟩
  have fin1 : ∀ {F' H' : Hp}, LsI P w K M rs p d1 d2 l F0 H F' H' c us qs kvs xs → Q (.ref d1) H' := fun L => fin (n := n) L (by omega)
  refine ⟨.ref l, rfl, Nat.zero_le _, fun e ne => ?_⟩
  have L1 := L.grow Z (Grow.newH (o := .lst []) L.sf ne)
  have he : (upd H1 e (.lst [])) e = some (.lst []) := upd_same
  clear L
  generalize upd H1 e (.lst []) = H2 at L1 he
  refine ⟨.list (qs.map quD), .list [], .lst (.inl (.inl L1.hl)) (dpAll_mono L1.sf _ _ L1.da), .lst (.inl (.inl he)) .nil, shaped_of (shd_lst (shd_map qs shd_qu)) (by decide), shaped_of (n := 1) (shd_lst (by simp)) (by decide), _, rfl, ?_⟩
  rw [qs_nil_eq]
  by_cases hq : qs = []
  · rw [decide_eq_true hq]
    exact ⟨.ref d1, rfl, fin1 L1⟩
  rw [decide_eq_false hq]
  refine ⟨.ref d2, rfl, d2, xs, rfl, L1.h2, keys_mono L1.sf L1.ks, by have := L1.x3; omega, _, _, rfl, rfl, _, rfl, ite2 (fun hx => ?_) (fun hx => ⟨.ref d1, rfl, fin1 L1⟩)⟩
  have hx : xs.length < 300 := by
    have := of_decide_eq_true hx
    omega
  refine ⟨_, fun σ' H' h => h, ?_⟩
  -- a turn
  have hql : us.length = qs.length := by have := dpa_len L1.da; rwa [List.length_map] at this
  have hq0 : 0 < qs.length := List.length_pos_iff.mpr hq
  refine ⟨.ref l, rfl, .inl ⟨rfl, us, SqL.of L1.hl⟩, .ref p, rfl, .ref l, rfl, l, us, rfl, .inl (SqL.of L1.hl), p, (us.length : Int), c, rfl, ⟨by omega, by omega⟩, by omega, L1.pa, fun H3 r bu pa3 r0 r9 => ?_⟩
  obtain ⟨k, rfl⟩ := Int.eq_ofNat_of_zero_le r0
  have hkq : k < qs.length := by omega
  have L2 := L1.growP Z (grow_but (Grow.refl L1.sw) bu) pa3
  obtain ⟨y, hy, dy⟩ : ∃ y, us[k]? = some y ∧ Dp K F1 y (quD qs[k]) := dpa_ix L2.da (by rw [List.getElem?_map, List.getElem?_eq_getElem hkq]; rfl)
  obtain ⟨hm5, gq⟩ := L2.got qs[k] (List.getElem_mem hkq)
  generalize qs[k] = q at dy hm5 gq
  obtain ⟨m, st⟩ := q
  have hm5 : m ≤ 5 := hm5
  have gq : Got (tabOf M rs) m st := gq
  obtain ⟨T1, ys, rfl, hs1, da1⟩ := dat_tup (F := F1) (H := F1) dy
  obtain ⟨a, b, rfl, ra, rb⟩ : ∃ a b, ys = [a, b] ∧ Dp K F1 a (nD m) ∧ Dp K F1 b (staD st) := by
    cases da1 with
    | cons h1 t => cases t with
      | cons h2 t =>
        cases t
        exact ⟨_, _, rfl, h1, h2⟩
  have ra : a = .int m := dat_int (F := F1) (H := F1) ra
  subst ra
  obtain ⟨t, zs, rfl, _, _⟩ := dat_tup (F := F1) (H := F1) rb
  have L3 := L2.setL Z (us' := us.eraseIdx k) (qs' := qs.eraseIdx k) (by rw [← erase_qu]; exact dpa_erase k L2.da) (fun q h => L2.got q (List.mem_of_mem_eraseIdx h))
  have hqe : (qs.eraseIdx k).length + 1 = qs.length := by rw [List.length_eraseIdx_of_lt hkq]; omega
  refine ⟨l, us, (k : Int), k, .ref T1, rfl, rfl, L2.hl, by omega, by omega, by rw [seqIndex_of (by omega) (by omega)]; rfl, hy, T1, [.int m, .ref t], rfl, seqT L3.sf hs1, rfl, .int m, [.ref t], rfl, .ref t, [], rfl, rfl, ?_⟩
  generalize us.eraseIdx k = us1 at L3
  generalize qs.eraseIdx k = qs1 at L3 hqe
  refine ⟨.ref d2, rfl, d2, rfl, ⟨xs, L3.h2⟩, .ref t, rfl, t, staD st, xs, rfl, dp_mono L3.sf _ _ rb, keyable_sta _, depth_sta _, L3.h2, keys_mono L3.sf L3.ks, fun b u hat => ?_, fun v hv => ?_⟩
  · obtain ⟨x, hx, _, e⟩ := atKey_mem hat
    obtain ⟨m', t', e'⟩ := L3.vals x hx
    exact ⟨.int m', t', by rw [← e', e]⟩
  obtain ⟨z, rfl, hz⟩ : ∃ z : Int, v = .int z ∧ ((m : Int) < z → atKey xs (nk (staD st)) = none ∨ ∃ b n t', atKey xs (nk (staD st)) = some (b, .int (n : Nat) t') ∧ m < n) := by
    rcases hv with ⟨hn, rfl⟩ | ⟨b, u, hat, rv⟩
    · exact ⟨9, rfl, fun _ => .inl hn⟩
    · obtain ⟨x, hx, _, e⟩ := atKey_mem hat
      obtain ⟨m', t', e'⟩ := L3.vals x hx
      have eu : u = .int (m' : Nat) t' := by rw [← e', e]
      subst eu
      cases v with
      | int i =>
        obtain ⟨t2, e2⟩ := rv
        injection e2 with e2 _
        subst e2
        exact ⟨_, rfl, fun h => .inr ⟨b, m', t', hat, by omega⟩⟩
      | _ => first | (obtain ⟨_, z⟩ := rv; cases z) | cases rv
  refine ⟨.int m, rfl, z, m, rfl, rfl, _, rfl, ite2 (fun hgt => ?_) (fun _ => ?_)⟩
  rotate_left
  · exact ⟨61 * phi xs + qs1.length, by omega, F1, c + 1, n + 1, us1, qs1, kvs, xs, _, _, _, rfl, rfl, L3, sF1, by omega, by omega, by omega⟩
  have better := hz (of_decide_eq_true hgt)
  refine ⟨.int m, rfl, .ref d2, rfl, .ref t, rfl, d2, t, staD st, xs, rfl, rfl, dp_mono L3.sf _ _ rb, keyable_sta _, depth_sta _, L3.h2, keys_mono L3.sf L3.ks, by omega, fun u ru => ?_⟩
  obtain ⟨tk, rfl⟩ := ru
  obtain ⟨hp1, hp2⟩ := phi_put (a := t) (t := tk) L3.nd hx hm5 better
  have L4 := L3.setK Z rb (keyable_sta _) (depth_sta _) hp2
  obtain ⟨Tt, ts, rfl, hst, dat⟩ := dat_tup (F := F0) (H := F0) rt
  obtain ⟨mv, rfl⟩ : ∃ mv, ts = [mv, .bl rs] := by
    cases dat with
    | cons h1 t => cases t with
      | cons h2 t =>
        cases t
        have := dat_bl (F := F0) (H := F0) h2
        subst this
        exact ⟨_, rfl⟩
  refine ⟨F1, _, F1, (RS.no (.no (.no (.no (.no (.no (.no (.no (.no .nil))))))))).sv L4.sf, fun J F5 H5 g5 wk => ?_⟩
  have L5 := L4.grow Z g5
  have sF5 : Same F1 F5 := g5.ff
  clear L4 g5
  generalize storedH xs (nk (staD st)) t (.int (m : Nat) tk) = xs1 at L5 hp1 hp2
  unfold WalkD at wk
  refine for_it wk (fun i σ H' => ∃ F' kvs', ∃ o8 : Option V, Same F5 F' ∧ σ = [some (.ref p), some (.ref Tt), some vh, some (.ref d1), some (.ref d2), some (.ref l), some (.int m), some (.ref t), o8] ∧ LsI P w K M rs p d1 d2 l F0 H F' H' (c + 1) us1 qs1 kvs' xs1 ∧ kvs'.length ≤ 6 * n + i) ⟨F5, kvs, _, Same.refl _, rfl, L5, by omega⟩ ?_ ?_ ?_
  · rintro i σ H _ ⟨F', kvs', o, s', rfl, L, _⟩
    exact s'.trans L.sf
  · rintro i x σ H6 H7 hi ⟨F', kvs', o, s6, rfl, L6, hk6⟩ y
    have hi6 : i < 6 := hi
    obtain ⟨F7, g7, d, hd, pd⟩ := y F' s6 L6.sf
    rw [List.getElem?_map] at hd
    obtain ⟨wd, hwd, rfl⟩ := Option.map_eq_some_iff.mp hd
    have ex := dat_str (F := F7) (H := F7) pd
    subst ex
    have L7 := L6.grow Z g7
    refine ⟨.ref d1, rfl, d1, rfl, .inl ⟨kvs', .inl L7.h1⟩, .str (wS wd), rfl, valV kvs' (.inr (wS wd)), DGet.k (k := .inr (wS wd)) L7.h1, ?_⟩
    obtain ⟨z, hz⟩ : ∃ z : Int, (valV kvs' (.inr (wS wd))).getD (.int 9) = .int z := by
      cases hv : valV kvs' (.inr (wS wd)) with
      | none => exact ⟨9, rfl⟩
      | some v =>
        obtain ⟨m', f', e, _⟩ := L7.low.val hv
        exact ⟨m', by rw [e]; rfl⟩
    refine ⟨.int m, rfl, z, m, hz, rfl, _, rfl, ite2 (fun _ => ?_) (fun _ => ?_)⟩
    rotate_left
    · exact ⟨F7, kvs', _, s6.trans g7.ff, rfl, L7, by omega⟩
    have s07 : Same F0 F7 := ((sF1.trans sF5).trans s6).trans g7.ff
    have s17 : Same F1 F7 := (sF5.trans s6).trans g7.ff
    refine ⟨.ref Tt, rfl, Tt, [mv, .bl rs], 1, .bl rs, rfl, rfl, seqT (s07.trans L7.sf) hst, rfl, .ref t, rfl, .str (wS wd), rfl, (rs, st, wd), F7, gq.1.mono hm5, L7.sf, ⟨.bl rs, dp_mono s17 _ _ rb, .str _, trivial⟩, fun v F8 H8 g8 ⟨d, ⟨b, eb, hb⟩, rv⟩ => ?_⟩
    subst eb
    have L8 := L7.grow Z g8
    refine ⟨b, dat_bl (F := F8) (H := H8) rv, ?_⟩
    cases b with
    | true => exact ⟨F8, kvs', _, (s6.trans g7.ff).trans g8.ff, rfl, L8, by omega⟩
    | false =>
      obtain ⟨fw, hfw, hfm⟩ := broken gq fun h => by
        have := hb h
        cases this
      refine ⟨.int m, rfl, .ref d1, rfl, .str (wS wd), rfl, d1, _, rfl, DPut.k (k := .inr (wS wd)) L8.h1 (by rw [sizeLine_eq]; omega), ?_⟩
      exact ⟨F8, _, _, (s6.trans g7.ff).trans g8.ff, rfl, L8.setW Z (L8.low.put hfw hfm), by have := length_putK kvs' (.inr (wS wd)) (.int m); omega⟩
  · rintro σ H6 ⟨F6, kvs', o, s6, rfl, L6, hk6⟩
    have hk6 : kvs'.length ≤ 6 * n + 6 := hk6
    have s06 : Same F0 F6 := (sF1.trans sF5).trans s6
    have s16 : Same F1 F6 := sF5.trans s6
    have hul : us1.length = qs1.length := by have := dpa_len L6.da; rwa [List.length_map] at this
    refine ⟨.ref l, rfl, .inl ⟨rfl, us1, SqL.of L6.hl⟩, .ref p, rfl, .ref Tt, rfl, .int m, rfl, .ref t, rfl, ⟨⟨M, rs, st⟩, m⟩, p, c + 1, F6, [.ref Tt, .int m, .ref t], rfl, ⟨hM.1, gq.1.mono hm5, hm5⟩, by omega, L6.pa, L6.sw, ⟨dp_mono s06 _ _ rt, .int _, dp_mono s16 _ _ rb, trivial⟩, fun v F7 H7 pa7 g7 ⟨ls, ⟨hn, hl60⟩, b, ws, ev, hb, db⟩ => ?_⟩
    have L7 := L6.growP Z g7 pa7
    have hwl : ws.length = ls.length := by have := dpa_len db; rwa [List.length_map] at this
    have hn : ∀ q ∈ ls, Next ⟨⟨M, rs, st⟩, m⟩ q := hn
    refine ⟨l, b, us1, ws, rfl, by rw [ev], L7.hl, L7.sf _ _ hb, by rw [sizeLine_eq]; omega, ?_⟩
    refine ⟨61 * phi xs1 + (qs1 ++ ls).length, by rw [List.length_append]; omega, F7, c + 1 + 8, n + 1, us1 ++ ws, qs1 ++ ls, kvs', xs1, _, _, _, rfl, rfl, L7.setL Z (by rw [List.map_append]; exact dpa_app L7.da db) (fun q hq => ?_), s06.trans g7.ff, by omega, by rw [List.length_append]; omega, by omega⟩
    rcases List.mem_append.mp hq with z | z
    · exact L7.got q z
    · obtain ⟨q1, q2⟩ := q
      obtain ⟨st', hcan, haft, hk', h5⟩ := hn _ z
      have hk' : q1 = if st'.thr = true then m + 1 else m := hk'
      have g2 := gq.step hcan haft
      rw [← hk'] at g2
      refine ⟨?_, g2⟩
      show q1 ≤ 5
      rw [hk']
      split
      · rename_i ht
        have := h5 ht
        have : m < 5 := this
        omega
      · exact hm5
end Sr
/-! the pot -/
namespace Sr
open PySem PySem.Spec PyProof.Rows L2 Dl Sb Nd
variable {P : Program} {w : World} {mg : Str → Option Value} {base : Heap} {K : PySem.W.Frag}
def spPot (K : PySem.W.Frag) : Sp := fun vs H Q _ => ∃ (a : Addr) (ns : List Int), vs = [.ref a, .int 0] ∧ SqL K H a (ns.map V.int) ∧ ns.length ≤ 63 ∧ ∀ q x b H', Same H H' → PotIn 0 x b 0 → H q = none → H' q = some (.lst (potL x b 0)) → Q (.ref q) H'
theorem op_powB {X : Cx} : OpR X (binaryOp .Pow) (rI (fun i j => 0 ≤ j ∧ (Builtin.Int.intBits i : Int) * j ≤ 2 ^ 27) fun i j => .int (i ^ j.toNat)) := opI fun _ _ _ _ _ _ _ hc q => pow_int hc.1 hc.2 q
theorem mul01 {x : Int} (h : 0 ≤ x) (k : Bool) : 0 ≤ x * (if k = true then (1 : Int) else 0) := by cases k <;> simp <;> omega
theorem b01 (k : Bool) : -2 ^ 64 < (if k = true then (1 : Int) else 0) ∧ (if k = true then (1 : Int) else 0) < 2 ^ 64 := by cases k <;> decide
set_option maxHeartbeats 1000000 in
theorem f_pot (B : Bi mg) (D : DefAt K mg "_law_pot" s_l_pot) : FnAt P w K mg base 1 "_law_pot" (spPot K) := by
  obtain ⟨f, fd, F, hm⟩ := D
  refine ⟨f, fd, P_l_pot, F.ok S_l_pot (fun vs H Q E h => ?_) (fun cdv A outer s H vs Q E hr h => ?_), hm, F.kp, F.binds fun _ _ _ _ _ _ us hl => match us, hl with | [_, _], _ => rfl⟩
  · obtain ⟨a, ns, rfl, _⟩ := h
    rfl
  obtain ⟨a, ns, rfl, hS, h63, q⟩ := h
  have nd := S_l_pot.nd
  refine ⟨_, pss_cons (ps_set (i := 2) nd rfl (.inl rfl) (e_if (K := K) (es := [.is (Dat K (.list (ns.map .int))), .is (Dat K (.int 0)), .no, .no]) (R := ExD K IsInt) (c := decide ((0 : Int) < (ns.length : Int)))
      (t_lt (e_v 1) (e_is (e_len B.len (e_sqdL (e_lsd (e_v 0)))) (by rw [List.length_map])) (nomark _))
      (fun h => by
        obtain ⟨n0, r, rfl⟩ : ∃ n0 r, ns = n0 :: r := by
          cases ns with
          | nil => simp at h
          | cons n r => exact ⟨n, r, rfl⟩
        exact e_toG (d := .int n0) (e_ixL (ds := (n0 :: r).map .int) (e_lsd (e_v 0)) (e_v 1) (by decide) rfl) ⟨n0, rfl⟩)
      (fun _ => e_toG (e_add (i := 17 * 0) (e_op op_mul e_int (e_v 1) fun x y F H Q s hx hy k => ⟨17, 0, dat_int hx, dat_int hy, .inl ⟨by decide, by decide⟩, can_now (R := Dat K (.int (17 * 0))) s (Dp.int _) k⟩) e_int) ⟨_, rfl⟩)))
    (pss_cons (ps_set (i := 3) nd rfl (.inl rfl) (pe_op op_mul (pe_op op_mod (pe_callB call_abs (by rfl) B.abs boot_abs (pa_cons (pv 2) pa_nil)) (pe_op op_powB (pe_op op_pow pe_int pe_int) pe_int))
      (pe_callTy call_int1 (by rfl) B.int boot_int (pa_cons (pe_cmpR op_ge (pe_callB call_abs (by rfl) B.abs boot_abs (pa_cons (pv 2) pa_nil)) (pe_op op_pow pe_int pe_int) (nomark _)) pa_nil))))
    (pss_one (ps_ret (pe_lst (pa_cons (pv 3) (pa_cons (pe_op op_mod (pe_op op_add (pe_op op_add (pe_op op_mul (pe_op op_mod (pv 2) pe_int) pe_int) (pe_op op_mul (pe_op op_mul pe_int (pv 1)) (pv 1))) pe_int) pe_int) (pa_cons pe_int pa_nil))))))), ?_⟩
  refine ⟨H, H, H, (RS.is inferInstance (show Dat K (.list (ns.map .int)) H H (.ref a) from .lst hS (of_ints ns)) (.is inferInstance (show Dat K (.int 0) H H (.int 0) from .int 0) (.no (.no .nil)))).sv (Same.refl H), fun v F1 H1 g ⟨d, ⟨n, en⟩, r⟩ => ?_⟩
  subst en
  have ev : v = .int n := dat_int (F := F1) (H := H1) r
  subst ev
  have hN : (0 : Int) < (10 ^ (60 : Int).toNat) ^ (5 : Int).toNat := by decide +kernel
  refine ⟨.int n, rfl, n, rfl, 10, 60, rfl, rfl, ⟨by decide, by decide, by decide⟩, _, 5, rfl, rfl, ⟨by decide, by decide +kernel⟩, _, _, rfl, rfl, hN, .int n, rfl, n, rfl, 10, 18, rfl, rfl, ⟨by decide, by decide, by decide⟩, _, _, rfl, rfl, .inr ⟨_, rfl, _, _, rfl, rfl, .inr ⟨(b01 _).1, (b01 _).2⟩, ?_⟩⟩
  have hx : (0 : Int) ≤ (if n < 0 then -n else n) % ((10 ^ (60 : Int).toNat) ^ (5 : Int).toNat) := Int.emod_nonneg _ (by omega)
  refine ⟨.int _, rfl, .int n, rfl, n, 2305843009213693951, rfl, rfl, (by show (0 : Int) < 2305843009213693951; decide), _, 48271, rfl, rfl, .inr ⟨by decide, by decide⟩, .int 0, rfl, 6907, 0, rfl, rfl, .inl ⟨by decide, by decide⟩, .int 0, rfl, _, 0, rfl, rfl, .inr ⟨by decide, by decide⟩, _, _, rfl, rfl, _, 23, rfl, rfl, _, 2305843009213693907, rfl, rfl, (by show (0 : Int) < 2305843009213693907; decide), ?_⟩
  have hb0 := Int.emod_nonneg (n % 2305843009213693951 * 48271 + 6907 * 0 * 0 + 23) (show (2305843009213693907 : Int) ≠ 0 by decide)
  have hb1 := Int.emod_lt_of_pos (n % 2305843009213693951 * 48271 + 6907 * 0 * 0 + 23) (show (0 : Int) < 2305843009213693907 by decide)
  exact ⟨Nat.le_trans (show 3 ≤ 100000 by decide) (by decide), fun l nl => q l _ _ _ (g.hh.trans (same_new nl)) ⟨mul01 hx _, hb0, by omega, Int.le_refl _, Int.le_refl _⟩ (g.hh.free nl) upd_same⟩
end Sr
/-! the law -/
namespace Sr
open PySem PySem.Spec PyProof.Rows L2 Dl Sb Nd
section
variable {X : Cx} {K : PySem.W.Frag} {es : List Ent} {a b e : Expr} {pos p2 p3 : Pos} {p : Addr} {c c' c2 : Nat}
/-- the least numbers, given back, told by the rows -/
def LowIs (K : PySem.W.Frag) (kvs : List (Key × V)) : Rel := fun F _ v => ∃ d, v = .ref d ∧ F d = some (.dK kvs)
instance {kvs : List (Key × V)} : PerR (LowIs K kvs) := ⟨fun _ _ _ _ _ g ⟨d, e, h⟩ => ⟨d, e, g _ _ h⟩⟩
def LowX (K : PySem.W.Frag) (M : List Mk) (rs : Bool) : Rel := fun F H v => ∃ kvs, Low M rs kvs ∧ LowIs K kvs F H v
instance {M : List Mk} {rs : Bool} : PerR (LowX K M rs) := ⟨fun F H F' H' v g ⟨kvs, l, r⟩ => ⟨kvs, l, PerR.m F H F' H' v g r⟩⟩
/-- repr(bool) -/
theorem call_reprB : CallR X (.builtin "repr") (fun xs H Q => ∃ c : Bool, xs = [.bl c] ∧ Q (.str (if c then "True" else "False")) H) := by
  intro pins s σ H xs us Q I r h
  obtain ⟨c, rfl, q⟩ := h
  obtain ⟨u, rfl, rx⟩ := vals1 r
  cases rx
  exact PySem.P.repr_of_bool ⟨.str _, H, I.tok _, ⟨_, rfl⟩, q⟩
theorem e_reprB {d : Bool} (hm : X.mg "repr" = none) (h : PE X e (tCan X.K es (Dat X.K (.bool d)))) (hg : Gl X "repr" := by rfl) (he : starEach [e] X.env = (false, eval e X.env) :: starEach [] X.env := by rfl) : PE X (.Call (.Name "repr" p2) [e] [] pos) (tCan X.K es (Dat X.K (.str (if d then "True" else "False")))) :=
  pe_imp (pe_callB call_reprB hg hm PyProof.Rows.boot_repr (pa_cons h pa_nil he) (he := he)) (can1 fun x F H Q s r k => ⟨d, by rw [dat_bl r], can_now (R := Dat X.K (.str _)) s (Dp.str _) k⟩)
theorem e_isN {d : PyData} (ha : PE X a (tCan K es (Dat K d))) (hb : PE X b (tCan K es (Dat K .none))) (hm : behindInMarks .Is b = false) : PE X (.Compare a [.Is] [b] pos) (tCan K es (Dat K (.bool (Dl.isNon d)))) :=
  pe_imp (pe_cmpR op_isN ha hb hm) (can2 fun x y F H Q s hx hy k => ⟨dat_non hy, by
    have e : decide (x = V.non) = (Dl.isNon d) := by
      cases hx <;> simp [Dl.isNon]
    rw [e]
    exact can_now (R := Dat K (.bool _)) s (Dp.bl _) k⟩)
/-- word in lows -/
theorem t_inLow {kvs : List (Key × V)} {x : Str} (hu : X.A.units + 1 < cLine) (ha : PE X a (tCan K es (Dat K (.str x)))) (hb : PE X b (tCan K es (LowIs K kvs))) (hm : behindInMarks .In b = false := by with_unfolding_all rfl) : PT X (.Compare a [.In] [b] pos) (tCanT K es (valV kvs (.inr x)).isSome) :=
  pt_imp (pt_cmp (pc_din hu ha hb) hm) fun σ H Q ⟨F0, H0, F, S, k⟩ => ⟨F0, H0, F, S, fun y F1 H1 g1 r1 => ⟨F0, H0, F1, S.grow g1, fun z F2 H2 g2 ⟨d, ez, hd⟩ => by
    have ey := dat_str r1
    exact ⟨d, valV kvs (.inr x), ez, .inl ⟨kvs, .inr x, .inl (g2.fh _ _ hd), ey, rfl⟩, _, rfl, k F2 H2 (g1.trans g2)⟩⟩⟩
/-- lows[word] -/
theorem e_getLow {kvs : List (Key × V)} {x : Str} {m : Int} (hu : X.A.units + 1 < cLine) (ha : PE X a (tCan K es (LowIs K kvs))) (hb : PE X b (tCan K es (Dat K (.str x)))) (hx : valV kvs (.inr x) = some (.int m)) (hs : NoSl b := by exact fun _ _ => rfl) : PE X (.Subscript a b pos) (tCan K es (Dat K (.int m))) :=
  pe_imp (pe_dget hu ha hb hs) fun σ H Q ⟨F0, H0, F, S, k⟩ => ⟨F0, H0, F, S, fun u F1 H1 g1 ⟨d, e, hd⟩ => ⟨F0, H0, F1, S.grow g1, fun y F2 H2 g2 r2 =>
    ⟨d, .int m, e, .inl ⟨kvs, .inr x, .inl (g2.hh _ _ (g1.fh _ _ hd)), dat_str r2, hx.symm⟩, k (.int m) F2 H2 (g1.trans g2) (.int _)⟩⟩⟩
end
theorem t_isW {X : Cx} {K : PySem.W.Frag} {es : List Ent} {e : Expr} {d d' : Bool} (h : PW X e (tCanT K es d)) (q : d = d') : PW X e (tCanT K es d') := q ▸ h
theorem sh_tf (c : Bool) : SeqAt.shaped (.str (if c then "True" else "False")) = true := by cases c <;> exact sh_s (by decide +kernel)
variable {P : Program} {w : World} {mg : Str → Option Value} {base : Heap} {K : PySem.W.Frag}
def spLaw (K : PySem.W.Frag) : Sp := fun vs H Q _ => ∃ (a : Addr) (ns : List Int), vs = [.ref a] ∧ SqL K H a (ns.map V.int) ∧ ns.length ≤ 63 ∧ ∀ H', Q (.bl true) H'
set_option maxHeartbeats 1000000 in
theorem ok_law (B : Bi mg) {f : Addr} {fd : FuncData} (F : Fun K "law" "law" s_law f fd) (FP : FnAt P w K mg base 1 "_law_pot" (spPot K)) (T : FnAt P w K mg base 1 "_law_take" spTake) (FT : FTable P w K mg base) (FA : FAnyTable P w K mg base) (FSm : FSmall P w K mg base) (FLe : FLeast P w K mg base) (FW : FWords P w K mg base) (FF : FFewest P w K mg base) (FH : FHolds P w K mg base) :
    FnOk P w K mg base CX0 8 f fd P_law (spLaw K) := by
  obtain ⟨fp, fdp, psp, FPk, hmp, kp, bp⟩ := FP.ex
  obtain ⟨fl, fdl, psl, FLk, hml, kl, bl⟩ := FLe.ex
  refine F.ok S_law (fun vs H Q E h => ?_) (fun cdv A outer s0 H vs Q E hr h => ?_)
  · obtain ⟨a, ns, rfl, _⟩ := h
    rfl
  obtain ⟨a, ns, rfl, hS, h63, q⟩ := h
  have nd := S_law.nd
  have hu := hu64 hr
  have hu1 : (A.deeper (envOfC "law" (defScope s_law) s0.heap.objs.size f cdv)).units + 1 < cLine := by omega
  have hr1 := hr.mono (show 1 ≤ 7 by decide)
  have hr3 := hr.mono (show 3 ≤ 7 by decide)
  have hr4 := hr.mono (show 4 ≤ 7 by decide)
  have hr5 := hr.mono (show 5 ≤ 7 by decide)
  refine ⟨_, pss_cons (ps_set (i := 1) nd rfl (.inl rfl) (pe_call FPk hr1 (by rfl) hmp kp bp .nil pass0 (pa_cons (pv 0) (pa_cons pe_int pa_nil))))
    (pss_hyp (ι := Addr) (C := fun _ => True) (t := fun p => tStP K p 0 [.no, .is (Is (.ref p)), .no, .no, .no, .no] (.rt (Dat K (.bool true)) 200000)) fun p _ => ?rest), ?run⟩
  case run =>
    refine ⟨.ref a, rfl, a, ns, rfl, hS, h63, fun p x b H1 sm pi np hp => ?_⟩
    refine ⟨p, trivial, fun _ => none, wo p H1, fun _ => none, ⟨x, b, 0, hp, pi⟩, (RS.no (.is inferInstance (show Is (.ref p) (fun _ => none) (wo p H1) (.ref p) from rfl) (.no (.no (.no (.no .nil)))))).sv (fun b o e => by cases e), fun v F2 H2 pa2 g r => ?_⟩
    have ev : v = .bl true := dat_bl (F := F2) (H := H2) r
    subst ev
    exact q _
  case rest =>
    refine pp_cons (q_setE 2 (e_ifP (B := fun _ => True) (t_gtP (e_anInt (e_take T hr1 (e_v 1) e_int ⟨by decide, by decide⟩ (by omega)) (fun d ⟨r, e, _⟩ => ⟨r, e⟩)) e_int (nomark _)) (fun _ => e_wkc (c2 := 0 + 1 + 500) (e_callP FT () trivial hr3 (a_cons (e_v 1) a_nil) (by omega) (fun T h => (nomatch h))) (by omega)) (fun _ => e_callP FA () trivial hr4 (a_cons (e_v 1) a_nil) (by omega) (fun T h => (nomatch h)))) nd) ?_
    rintro c1 e ⟨rfl, d, ⟨M, rs, hM, rfl⟩, rfl⟩
    have hMl : M.length ≤ 1000 := by have := hM.2; omega
    refine pp_to [.no, .is (Is (.ref p)), .is (Dat K (tabD M rs)), .no, .no, .no] ?_
    refine pp_cons (q_set 3 (R := LowX K M rs) (c' := 0 + 1 + 500 + 30 + 130000) (pe_imp (pe_call FLk hr5 (by rfl) hml kl bl .nil pass0 (pa_cons (e_lift (p := p) (c := 0 + 1 + 500) (c' := 0 + 1 + 500) (e_v 1) (Nat.le_refl _)) (pa_cons (e_lift (p := p) (c := 0 + 1 + 500) (c' := 0 + 1 + 500) (e_v 2) (Nat.le_refl _)) (pa_cons (e_callP FSm () trivial hr3 (a_cons (e_v 1) a_nil) (by omega) (fun T h => (nomatch h))) pa_nil)))) fun σ H Q ⟨F0, H0, F, pa, S, k⟩ => ⟨F0, H0, F, pa, S, fun x F1 H1 pa1 g1 r1 => ⟨F0, H0, F1, pa1, S.grow g1, fun y F2 H2 pa2 g2 r2 => ⟨F0, H0, F2, pa2, (S.grow g1).grow g2, fun z F3 H3 pa3 g3 ⟨d, ⟨h, ho, ed⟩, r3⟩ => by
      have r1 : x = .ref p := r1
      subst r1
      subst ed
      refine ⟨⟨M, rs, h⟩, p, 0 + 1 + 500 + 30, F3, [y, z], rfl, ⟨hM, ho⟩, by omega, pa3, g3.fh, ⟨dp_mono g3.ff _ _ r2, r3, trivial⟩, fun v F' H' pa' g r => k v F' H' pa' (((g1.trans g2).trans g3).trans g) ?_⟩
      obtain ⟨d, kvs, e, hd, l⟩ := r
      exact ⟨kvs, l, d, e, hd⟩⟩⟩⟩) nd) ?_
    rintro c2 e ⟨rfl, rfl⟩
    refine pp_exR (C := Low M rs) (Rf := LowIs K) 3 rfl ?_
    intro kvs low
    refine pp_to [.no, .is (Is (.ref p)), .is (Dat K (tabD M rs)), .is (LowIs K kvs), .no, .no] ?_
    refine ss_liftR (m := inferInstance) ?_ (by omega)
    refine ss_cons (s_forA (α := Unit) (fun _ _ => [.no, .is (Is (.ref p)), .is (Dat K (tabD M rs)), .is (LowIs K kvs), .no, .no]) (fun _ _ => True) () (enc := fun wd => PyData.str (wS wd)) (xs := words) rfl (i_lst (e_call0 FW () trivial hr1)) (pg_name (i := 4) nd rfl (.inl rfl)) (fun wd _ => tg_name 4 _) (WkL.refl _) trivial ?_ PassesOwn.never) ?_
    · intro i wd _ hw _
      refine ss_to [.no, .is (Is (.ref p)), .is (Dat K (tabD M rs)), .is (LowIs K kvs), .is (Dat K (.str (wS wd))), .no] ?_
      refine ss_c (s_set 5 (e_call FF (M, rs, wd) hMl hr (a_cons (e_v 2) (a_cons (e_v 4) a_nil))) nd) ?_
      refine ss_to [.no, .is (Is (.ref p)), .is (Dat K (tabD M rs)), .is (LowIs K kvs), .is (Dat K (.str (wS wd))), .is (Dat K (oD (fewest M rs wd)))] ?_
      refine ss_c (s_if (c := false) (t_is (t_ne hu (e_reprB B.repr (e_call FH (M, rs, wd) hMl hr5 (a_cons (e_v 2) (a_cons (e_v 4) a_nil)))) (e_reprB B.repr (e_isN (e_v 5) e_non (nomark _))) (sh_tf _) (sh_tf _) (nomark _)) ?_) (fun h => by cases h) (fun _ => ss_nil)) ?_
      · have e1 : Dl.isNon (oD (fewest M rs wd)) = !(ways rs wd).any (allOpen M) := by
          rw [← fewest_none]
          cases fewest M rs wd <;> rfl
        rw [e1, eqv_str, decide_eq_true rfl]
        rfl
      refine ss_end (ss_one (s_if (c := false) ?_ (fun h => by cases h) (fun _ => ss_nil))) ⟨(), trivial, .same (.same (.same (.same (.drop (.drop .nil)))))⟩
      cases hv : valV kvs (.inr (wS wd)) with
      | none => exact PW.pt (t_isW (w_and (d := false) (t_inLow hu1 (e_v 4) (e_v 3)) (fun h => by rw [hv] at h; cases h)) (by rw [hv]; rfl))
      | some v =>
        obtain ⟨m, f, rfl, hf, hfm⟩ := low.val hv
        rw [hf]
        exact PW.pt (t_isW (w_and (t_inLow hu1 (e_v 4) (e_v 3)) (fun _ => w_and1 (PW.pt (w_or (t_isN (e_v 5) e_non (nomark _)) (fun _ => w_or1 (t_gt (i := (f : Int)) (j := (m : Int)) (e_v 5) (e_getLow hu1 (e_v 3) (e_v 4) hv) (nomark _))))))) (by
          rw [hv]
          show (true && (false || decide ((f : Int) > m))) = false
          rw [decide_eq_false (by omega)]
          rfl))
    · rintro e ⟨_, _, w'⟩
      exact ss_pre w' (ss_one (s_ret e_bl))
end Sr
/-! the facts of the top; the whole -/
namespace Sr
open PySem PySem.Spec PyProof.Rows L2 Dl Sb Nd
section
variable {K : PySem.W.Frag} {h : Heap} {mg : Str → Option Value} {w : World}
theorem defAt_of (X : K.In h) (G : h.Ns mainGlobals mg) {x : Str} {st : Stmt} {f : Addr} {oc : Value} {od an : Option Addr} {osl : Array (Option Value)} {kV doc pm cdv ct : Value}
    (a : PySem.W.nsIn K mainGlobals x = some (some (.ref f))) (l : K.lookup f = some ⟨oc, od, .func (PySem.W.fnOf x x (defArgs st) (defBody st) (defScope st) .none kV doc pm an cdv ct), osl⟩) (c : PySem.W.codeIn K cdv x = true) (k : PySem.W.keepIn K (.ref f) = true) : DefAt K mg x st :=
  ⟨f, _, fun_mk l c k, PySem.W.mg_of X G a⟩
/-- a value of the module, as data -/
def KVal (K : PySem.W.Frag) (u : Value) (d : PyData) : Prop := ∃ v, RelV v u ∧ Dp K (fun _ => none) v d
def KAll (K : PySem.W.Frag) (us : List Value) (ds : List PyData) : Prop := ∃ vs, Vals vs us ∧ DpAll K (fun _ => none) vs ds
theorem kv_str {x : Str} {t : Tok} : KVal K (.str x t) (.str x) := ⟨.str x, ⟨t, rfl⟩, .str x⟩
theorem kv_int {x : Int} {t : Tok} : KVal K (.int x t) (.int x) := ⟨.int x, ⟨t, rfl⟩, .int x⟩
theorem ka_nil : KAll K [] [] := ⟨[], .nil, .nil⟩
theorem ka_cons {u : Value} {us : List Value} {d : PyData} {ds : List PyData} (a : KVal K u d) (b : KAll K us ds) : KAll K (u :: us) (d :: ds) :=
  let ⟨v, r, p⟩ := a
  let ⟨vs, rs, ps⟩ := b
  ⟨v :: vs, .cons r rs, .cons p ps⟩
theorem kv_tup {a : Addr} {dd : Option Addr} {us : List Value} {n : Nat} {sl : Array (Option Value)} {ds : List PyData} (l : K.lookup a = some ⟨.type "tuple", dd, .seq us.toArray n, sl⟩) (z : us.length ≤ 1000) (t : KAll K us ds) : KVal K (.ref a) (.tuple ds) :=
  let ⟨vs, rs, ps⟩ := t
  ⟨.ref a, rfl, .tup (.inr ⟨_, _, n, l, rfl, rfl, by rw [List.size_toArray, sizeLine_eq]; omega, rs⟩) ps⟩
theorem gld_of (X : K.In h) (G : h.Ns mainGlobals mg) {x : Str} {u : Value} {d : PyData} (a : PySem.W.nsIn K mainGlobals x = some (some u)) (k : KVal K u d) : GlD K mg x d :=
  let ⟨v, r, p⟩ := k
  ⟨⟨u, v, PySem.W.mg_of X G a, r, p⟩⟩
theorem holdK_of (X : K.In h) (G : h.Ns mainGlobals mg) {d : Addr} {en : Array DictEntry} {n : Nat} {t1 t2 : Tok} (a : PySem.W.nsIn K mainGlobals "HOLDER_OF_CUT" = some (some (.ref d))) (l : K.lookup d = some ⟨.type "dict", none, .dict en n, #[]⟩) (k : PySem.W.KeysLit w.params en.toList) (lo : (d == sysModules) = false)
    (n1 : PySem.W.nsIn K d "new_white" = some none) (n2 : PySem.W.nsIn K d "load_grey" = some none) (n3 : PySem.W.nsIn K d "load_white" = some none) (n4 : PySem.W.nsIn K d "load_black" = some none) (n5 : PySem.W.nsIn K d "by_unscanned" = some none) (n6 : PySem.W.nsIn K d "by_unscanned_over_white" = some none) (n7 : PySem.W.nsIn K d "by_scanned" = some none)
    (u1 : PySem.W.nsIn K d "cut_grey" = some (some (.str "grey" t1))) (u2 : PySem.W.nsIn K d "cut_white" = some (some (.str "white" t2))) : HoldK K w mg := by
  refine ⟨d, en, n, PySem.W.mg_of X G a, ⟨l, k, lo⟩, fun g h1 h2 => ?_, ⟨_, u1, t1, rfl⟩, ⟨_, u2, t2, rfl⟩⟩
  cases g
  · exact n1
  · exact n2
  · exact n3
  · exact n4
  · exact n5
  · exact n6
  · exact n7
  · exact absurd rfl h1
  · exact absurd rfl h2
theorem waysK_of {P : Program} (X : K.In h) (G : h.Ns mainGlobals mg) {a b : Addr} {es es2 : Array DictEntry} {n n2' : Nat} {u1 u2 u3 u4 u5 w1 w2 : Value} (a1 : PySem.W.nsIn K mainGlobals "WAYS" = some (some (.ref a))) (l1 : K.lookup a = some ⟨.type "dict", none, .dict es n, #[]⟩) (k1 : PySem.W.KeysLit w.params es.toList)
    (n1 : PySem.W.nsIn K a "clean" = some (some u1)) (n2 : PySem.W.nsIn K a "covered" = some (some u2)) (n3 : PySem.W.nsIn K a "direct" = some (some u3)) (n4 : PySem.W.nsIn K a "strong" = some (some u4)) (n5 : PySem.W.nsIn K a "weak" = some (some u5))
    (v1 : KVal K u1 (waysD false .clean)) (v2 : KVal K u2 (waysD false .covered)) (v3 : KVal K u3 (waysD false .direct)) (v4 : KVal K u4 (waysD false .strong)) (v5 : KVal K u5 (waysD false .weak))
    (a2 : PySem.W.nsIn K mainGlobals "SAFE_WAYS" = some (some (.ref b))) (l2 : K.lookup b = some ⟨.type "dict", none, .dict es2 n2', #[]⟩) (k2 : KeysOf (leafKind P w) es2) (f1 : findBy (leafKind P w).is es2 (boolLeaf false) = some w1) (f2 : findBy (leafKind P w).is es2 (boolLeaf true) = some w2)
    (x1 : KVal K w1 (waysD false .safe)) (x2 : KVal K w2 (waysD true .safe)) : WaysK P w K mg := by
  refine ⟨⟨a, PySem.W.mg_of X G a1, fun wd h => ?_⟩, ⟨b, PySem.W.mg_of X G a2, fun c => ?_⟩⟩
  · cases wd with
    | clean => obtain ⟨v, r, p⟩ := v1; exact ⟨v, ⟨es, n, u1, l1, k1, n1, r⟩, fun _ => p⟩
    | covered => obtain ⟨v, r, p⟩ := v2; exact ⟨v, ⟨es, n, u2, l1, k1, n2, r⟩, fun _ => p⟩
    | direct => obtain ⟨v, r, p⟩ := v3; exact ⟨v, ⟨es, n, u3, l1, k1, n3, r⟩, fun _ => p⟩
    | safe => exact absurd rfl h
    | strong => obtain ⟨v, r, p⟩ := v4; exact ⟨v, ⟨es, n, u4, l1, k1, n4, r⟩, fun _ => p⟩
    | weak => obtain ⟨v, r, p⟩ := v5; exact ⟨v, ⟨es, n, u5, l1, k1, n5, r⟩, fun _ => p⟩
  · cases c with
    | false => obtain ⟨v, r, p⟩ := x1; exact ⟨v, ⟨es2, n2', w1, l2, k2, f1, r⟩, p⟩
    | true => obtain ⟨v, r, p⟩ := x2; exact ⟨v, ⟨es2, n2', w2, l2, k2, f2, r⟩, p⟩
end
theorem keysB {P : Program} {w : World} {u v : Value} : KeysOf (leafKind P w) #[⟨0, .bool false, u⟩, ⟨1, .bool true, v⟩] := fun e he => by
  simp only [List.mem_toArray, List.mem_cons, List.not_mem_nil, or_false] at he
  rcases he with rfl | rfl
  · exact ⟨boolLeaf false, rfl, rfl⟩
  · exact ⟨boolLeaf true, rfl, rfl⟩
/-- all that the top has written -/
structure Facts (P : Program) (w : World) (K : PySem.W.Frag) (mg : Str → Option Value) : Prop where
  B : Bi mg
  G : Gls K mg
  HK : HoldK K w mg
  WK : WaysK P w K mg
  d_check_word : DefAt K mg "check_word" s_check_word
  d_ways_to_break : DefAt K mg "ways_to_break" s_ways_to_break
  d_marks_into_black : DefAt K mg "marks_into_black" s_marks_into_black
  d_cuts : DefAt K mg "cuts" s_cuts
  d_marks_that_close : DefAt K mg "marks_that_close" s_marks_that_close
  d_known_marks : DefAt K mg "known_marks" s_known_marks
  d_open_marks : DefAt K mg "open_marks" s_open_marks
  d_gaps_of : DefAt K mg "gaps_of" s_gaps_of
  d_breaks : DefAt K mg "breaks" s_breaks
  d_holds : DefAt K mg "holds" s_holds
  d_cut_entry : DefAt K mg "cut_entry" s_cut_entry
  d_steps_of_way : DefAt K mg "steps_of_way" s_steps_of_way
  d_shortest_way : DefAt K mg "shortest_way" s_shortest_way
  d_fewest_steps : DefAt K mg "fewest_steps" s_fewest_steps
  d_l_pot : DefAt K mg "_law_pot" s_l_pot
  d_l_take : DefAt K mg "_law_take" s_l_take
  d_l_of : DefAt K mg "_law_of" s_l_of
  d_l_marks : DefAt K mg "_law_marks" s_l_marks
  d_l_groups : DefAt K mg "_law_groups" s_l_groups
  d_l_table : DefAt K mg "_law_table" s_l_table
  d_l_ended : DefAt K mg "_law_ended" s_l_ended
  d_l_reached : DefAt K mg "_law_reached" s_l_reached
  d_l_covered : DefAt K mg "_law_covered" s_l_covered
  d_l_has : DefAt K mg "_law_has" s_l_has
  d_l_with : DefAt K mg "_law_with" s_l_with
  d_l_kind : DefAt K mg "_law_kind" s_l_kind
  d_l_load : DefAt K mg "_law_load" s_l_load
  d_l_store : DefAt K mg "_law_store" s_l_store
  d_l_own_after : DefAt K mg "_law_own_after" s_l_own_after
  d_l_choices : DefAt K mg "_law_choices" s_l_choices
  d_l_start : DefAt K mg "_law_start" s_l_start
  d_l_any_table : DefAt K mg "_law_any_table" s_l_any_table
  d_l_words : DefAt K mg "_law_words" s_l_words
  d_l_collects : DefAt K mg "_law_collects" s_l_collects
  d_l_small_heap : DefAt K mg "_law_small_heap" s_l_small_heap
  d_l_later : DefAt K mg "_law_later" s_l_later
  d_l_least : DefAt K mg "_law_least" s_l_least
  d_law : DefAt K mg "law" s_law
theorem end_of {P : Program} {w : World} {K : PySem.W.Frag} {h : Heap} {mg : Str → Option Value} {fa : Addr} (X : K.In h) (G : h.Ns mainGlobals mg) (hfa : mg "law" = some (.ref fa)) (T : Facts P w K mg) :
    ∃ fd : FuncData, (∀ (s : Shared) (u : Value), BindsTo s fd ⟨[u], []⟩ [("_law_script", u)]) ∧ ∀ base : Heap, K.In base → base.Ns mainGlobals mg → FnOk P w K mg base CX0 8 fa fd ["_law_script"] (spLaw K) := by
  obtain ⟨f, fd, F, hm⟩ := T.d_law
  rw [hfa] at hm
  cases hm
  obtain ⟨⟨oc, od, kV, doc, pm, an, cdv, ct, osl, rfl, l, c⟩, kp⟩ := F
  refine ⟨PySem.W.fnOf "law" "law" (defArgs s_law) (defBody s_law) (defScope s_law) .none kV doc pm an cdv ct, fun s u => .of_eq rfl, fun base _ _ => ?_⟩
  have B := T.B
  have Gl := T.G
  have FWith := f_with (P := P) (w := w) (base := base) T.d_l_with
  have FKind := f_kind (P := P) (w := w) (base := base) T.d_l_kind
  have FEnded := f_ended (P := P) (w := w) (base := base) B T.d_l_ended
  have FReached := f_reached (P := P) (w := w) (base := base) B T.d_l_reached
  have FCovered := f_covered (P := P) (w := w) (base := base) B T.d_l_covered
  have FHas := f_has B T.d_l_has FEnded FReached FCovered
  have FLoad := f_load B T.d_l_load FWith FKind
  have FStore := f_store B T.d_l_store FWith FKind
  have FAfter := f_after B T.d_l_own_after FWith FKind FLoad FStore
  have FCollects := f_collects B T.d_l_collects FEnded
  have FChoices := f_choices B T.d_l_choices FEnded
  have FStart := f_start (P := P) (w := w) (base := base) B T.d_l_start
  have FWords := f_words (P := P) (w := w) (base := base) T.d_l_words
  have FInto := f_into (P := P) (w := w) (base := base) B Gl T.d_marks_into_black
  have FCuts := f_cuts (P := P) (w := w) (base := base) B Gl T.d_cuts
  have FClose := f_close B Gl T.HK T.d_marks_that_close FInto FCuts
  have FKnown := f_known (P := P) (w := w) (base := base) T.d_known_marks
  have FOpen := f_open B T.d_open_marks FClose
  have FGaps := f_gaps Gl T.d_gaps_of FKnown FOpen
  have FCheck := f_check (P := P) (w := w) (base := base) B Gl T.d_check_word
  have FWays := f_ways (base := base) Gl T.WK T.d_ways_to_break
  have FBreaks := f_breaks B T.d_breaks FWays
  have FHolds := f_holds T.d_holds FCheck FGaps FBreaks
  have FEntry := f_entry Gl T.d_cut_entry FOpen
  have FSteps := f_steps B Gl T.d_steps_of_way FEntry
  have FShort := f_short B T.d_shortest_way FGaps FKnown FWays FSteps
  have FFewest := f_fewest T.d_fewest_steps FCheck FShort
  have FTake := f_take (P := P) (w := w) (base := base) T.d_l_take
  have FOf := f_of B T.d_l_of FTake
  have FSmall := f_small B T.d_l_small_heap FTake FOf
  have FMarks := f_marks (P := P) (w := w) (base := base) B T.d_l_marks
  have FGroups := f_groups (P := P) (w := w) (base := base) T.d_l_groups
  have FTable := f_table B T.d_l_table FTake FOf FMarks FGroups
  have FAny := f_any_table B T.d_l_any_table FTake FMarks FTable
  have FLater := f_later B T.d_l_later FOf FAfter FChoices FCollects
  have FLeast := f_least B T.d_l_least FTake FStart FWords FHas FLater
  have FPot := f_pot (P := P) (w := w) (base := base) B T.d_l_pot
  exact ok_law B ⟨⟨oc, od, kV, doc, pm, an, cdv, ct, osl, rfl, l, c⟩, kp⟩ FPot FTake FTable FAny FSmall FLeast FWords FFewest FHolds
end Sr
open PySem PySem.W PyProof.Rows
set_option maxHeartbeats 0 in
theorem PySem.Challenge.cw_shadebarriers_k70_whole_small_heaps_sear_holds : PySem.Challenge.rw_shadebarriers_k70_whole_small_heaps_sear.Holds := by
  w_on; o_law; k_head; (case hw => w_witness2)
  k_fill
  refine L2.walk_of (l := PySem.Challenge.rw_shadebarriers_k70_whole_small_heaps_sear) (n := 63) (k := 8) (x := "_law_script") (CX := fun _ => L2.CX0) (sp := fun w => Sr.spLaw _) rfl (by decide) rfl ⟨rfl, by decide, by decide⟩ (fun w h Y => PySem.W.kIn_of Y) ?F (fun _ _ a ns hl _ hS => ⟨a, ns, rfl, hS, hl, fun _ => rfl⟩) (fun _ _ _ _ _ h => h)
  case F =>
    intro w mg fa h KX G hmg
    refine' Sr.end_of KX G hmg ?fx
    case fx =>
      refine' ⟨?B, ?G, ?HK, ?WK, ?d_check_word, ?d_ways_to_break, ?d_marks_into_black, ?d_cuts, ?d_marks_that_close, ?d_known_marks, ?d_open_marks, ?d_gaps_of, ?d_breaks, ?d_holds, ?d_cut_entry, ?d_steps_of_way, ?d_shortest_way, ?d_fewest_steps, ?d_l_pot, ?d_l_take, ?d_l_of, ?d_l_marks, ?d_l_groups, ?d_l_table, ?d_l_ended, ?d_l_reached, ?d_l_covered, ?d_l_has, ?d_l_with, ?d_l_kind, ?d_l_load, ?d_l_store, ?d_l_own_after, ?d_l_choices, ?d_l_start, ?d_l_any_table, ?d_l_words, ?d_l_collects, ?d_l_small_heap, ?d_l_later, ?d_l_least, ?d_law⟩
      case B => (refine' ⟨PySem.W.mg_none_of KX G ?b_len, PySem.W.mg_none_of KX G ?b_list, PySem.W.mg_none_of KX G ?b_tuple, PySem.W.mg_none_of KX G ?b_sorted, PySem.W.mg_none_of KX G ?b_set, PySem.W.mg_none_of KX G ?b_any, PySem.W.mg_none_of KX G ?b_all, PySem.W.mg_none_of KX G ?b_int, PySem.W.mg_none_of KX G ?b_range, PySem.W.mg_none_of KX G ?b_enumerate, PySem.W.mg_none_of KX G ?b_zip, PySem.W.mg_none_of KX G ?b_isinstance, PySem.W.mg_none_of KX G ?b_str, PySem.W.mg_none_of KX G ?b_abs, PySem.W.mg_none_of KX G ?b_repr⟩; (case b_len => k_is); (case b_list => k_is); (case b_tuple => k_is); (case b_sorted => k_is); (case b_set => k_is); (case b_any => k_is); (case b_all => k_is); (case b_int => k_is); (case b_range => k_is); (case b_enumerate => k_is); (case b_zip => k_is); (case b_isinstance => k_is); (case b_str => k_is); (case b_abs => k_is); (case b_repr => k_is))
      case G =>
        refine' ⟨?g_safeP, ?g_scanned, ?g_unscanned, ?g_states, ?g_black, ?g_grey, ?g_white, ?g_oldV, ?g_newV, ?g_newWhite, ?g_loadGrey, ?g_loadWhite, ?g_loadBlack, ?g_byUnscanned, ?g_overWhite, ?g_byScanned, ?g_cutGrey, ?g_cutWhite, ?g_gaps, ?g_props⟩
        (case g_safeP => (refine' Sr.gld_of KX G ?a ?k; (case a => k_is); (case k => exact Sr.kv_str)))
        (case g_scanned => (refine' Sr.gld_of KX G ?a ?k; (case a => k_is); (case k => exact Sr.kv_str)))
        (case g_unscanned => (refine' Sr.gld_of KX G ?a ?k; (case a => k_is); (case k => exact Sr.kv_str)))
        (case g_states => (refine' Sr.gld_of KX G ?a ?k; (case a => k_is); (case k => (refine' Sr.kv_tup ?l ?z ?t; (case l => k_is); (case z => decide); (case t => exact (Sr.ka_cons Sr.kv_str (Sr.ka_cons Sr.kv_str Sr.ka_nil)))))))
        (case g_black => (refine' Sr.gld_of KX G ?a ?k; (case a => k_is); (case k => exact Sr.kv_str)))
        (case g_grey => (refine' Sr.gld_of KX G ?a ?k; (case a => k_is); (case k => exact Sr.kv_str)))
        (case g_white => (refine' Sr.gld_of KX G ?a ?k; (case a => k_is); (case k => exact Sr.kv_str)))
        (case g_oldV => (refine' Sr.gld_of KX G ?a ?k; (case a => k_is); (case k => (refine' Sr.kv_tup ?l ?z ?t; (case l => k_is); (case z => decide); (case t => exact (Sr.ka_cons Sr.kv_str (Sr.ka_cons Sr.kv_str (Sr.ka_cons Sr.kv_str Sr.ka_nil))))))))
        (case g_newV => (refine' Sr.gld_of KX G ?a ?k; (case a => k_is); (case k => (refine' Sr.kv_tup ?l ?z ?t; (case l => k_is); (case z => decide); (case t => exact (Sr.ka_cons Sr.kv_str (Sr.ka_cons Sr.kv_str (Sr.ka_cons Sr.kv_str (Sr.ka_cons Sr.kv_str Sr.ka_nil)))))))))
        (case g_newWhite => (refine' Sr.gld_of KX G ?a ?k; (case a => k_is); (case k => exact Sr.kv_str)))
        (case g_loadGrey => (refine' Sr.gld_of KX G ?a ?k; (case a => k_is); (case k => exact Sr.kv_str)))
        (case g_loadWhite => (refine' Sr.gld_of KX G ?a ?k; (case a => k_is); (case k => exact Sr.kv_str)))
        (case g_loadBlack => (refine' Sr.gld_of KX G ?a ?k; (case a => k_is); (case k => exact Sr.kv_str)))
        (case g_byUnscanned => (refine' Sr.gld_of KX G ?a ?k; (case a => k_is); (case k => exact Sr.kv_str)))
        (case g_overWhite => (refine' Sr.gld_of KX G ?a ?k; (case a => k_is); (case k => exact Sr.kv_str)))
        (case g_byScanned => (refine' Sr.gld_of KX G ?a ?k; (case a => k_is); (case k => exact Sr.kv_str)))
        (case g_cutGrey => (refine' Sr.gld_of KX G ?a ?k; (case a => k_is); (case k => exact Sr.kv_str)))
        (case g_cutWhite => (refine' Sr.gld_of KX G ?a ?k; (case a => k_is); (case k => exact Sr.kv_str)))
        (case g_gaps => (refine' Sr.gld_of KX G ?a ?k; (case a => k_is); (case k => (refine' Sr.kv_tup ?l ?z ?t; (case l => k_is); (case z => decide); (case t => exact (Sr.ka_cons Sr.kv_str (Sr.ka_cons Sr.kv_str (Sr.ka_cons Sr.kv_str (Sr.ka_cons Sr.kv_str (Sr.ka_cons Sr.kv_str (Sr.ka_cons Sr.kv_str (Sr.ka_cons Sr.kv_str (Sr.ka_cons Sr.kv_str (Sr.ka_cons Sr.kv_str Sr.ka_nil))))))))))))))
        (case g_props => (refine' Sr.gld_of KX G ?a ?k; (case a => k_is); (case k => (refine' Sr.kv_tup ?l ?z ?t; (case l => k_is); (case z => decide); (case t => exact (Sr.ka_cons Sr.kv_str (Sr.ka_cons Sr.kv_str (Sr.ka_cons Sr.kv_str (Sr.ka_cons Sr.kv_str (Sr.ka_cons Sr.kv_str (Sr.ka_cons Sr.kv_str Sr.ka_nil)))))))))))
      case HK => (refine' Sr.holdK_of KX G ?a ?l ?k ?lo ?n1 ?n2 ?n3 ?n4 ?n5 ?n6 ?n7 ?u1 ?u2; (case a => k_is); (case l => k_is); (case k => k_keys); (case lo => decide); (case n1 => k_is); (case n2 => k_is); (case n3 => k_is); (case n4 => k_is); (case n5 => k_is); (case n6 => k_is); (case n7 => k_is); (case u1 => k_is); (case u2 => k_is))
      case WK =>
        refine' Sr.waysK_of KX G ?a1 ?l1 ?k1 ?n1 ?n2 ?n3 ?n4 ?n5 ?v1 ?v2 ?v3 ?v4 ?v5 ?a2 ?l2 ?k2 ?f1 ?f2 ?x1 ?x2
        (case a1 => k_is)
        (case l1 => k_is)
        (case k1 => k_keys)
        (case n1 => k_is)
        (case n2 => k_is)
        (case n3 => k_is)
        (case n4 => k_is)
        (case n5 => k_is)
        (case v1 => (refine' Sr.kv_tup ?l ?z ?t; (case l => k_is); (case z => decide); (case t => (refine' (Sr.ka_cons ?y0 (Sr.ka_cons ?y1 (Sr.ka_cons ?y2 Sr.ka_nil))); (case y0 => (refine' Sr.kv_tup ?l ?z ?t; (case l => k_is); (case z => decide); (case t => (refine' Sr.ka_cons ?h (Sr.ka_cons Sr.kv_int Sr.ka_nil); (case h => (refine' Sr.kv_tup ?l ?z ?t; (case l => k_is); (case z => decide); (case t => exact (Sr.ka_cons Sr.kv_str Sr.ka_nil)))))))); (case y1 => (refine' Sr.kv_tup ?l ?z ?t; (case l => k_is); (case z => decide); (case t => (refine' Sr.ka_cons ?h (Sr.ka_cons Sr.kv_int Sr.ka_nil); (case h => (refine' Sr.kv_tup ?l ?z ?t; (case l => k_is); (case z => decide); (case t => exact (Sr.ka_cons Sr.kv_str Sr.ka_nil)))))))); (case y2 => (refine' Sr.kv_tup ?l ?z ?t; (case l => k_is); (case z => decide); (case t => (refine' Sr.ka_cons ?h (Sr.ka_cons Sr.kv_int Sr.ka_nil); (case h => (refine' Sr.kv_tup ?l ?z ?t; (case l => k_is); (case z => decide); (case t => exact (Sr.ka_cons Sr.kv_str (Sr.ka_cons Sr.kv_str Sr.ka_nil)))))))))))))
        (case v2 => (refine' Sr.kv_tup ?l ?z ?t; (case l => k_is); (case z => decide); (case t => (refine' (Sr.ka_cons ?y0 (Sr.ka_cons ?y1 (Sr.ka_cons ?y2 (Sr.ka_cons ?y3 (Sr.ka_cons ?y4 Sr.ka_nil))))); (case y0 => (refine' Sr.kv_tup ?l ?z ?t; (case l => k_is); (case z => decide); (case t => (refine' Sr.ka_cons ?h (Sr.ka_cons Sr.kv_int Sr.ka_nil); (case h => (refine' Sr.kv_tup ?l ?z ?t; (case l => k_is); (case z => decide); (case t => exact (Sr.ka_cons Sr.kv_str Sr.ka_nil)))))))); (case y1 => (refine' Sr.kv_tup ?l ?z ?t; (case l => k_is); (case z => decide); (case t => (refine' Sr.ka_cons ?h (Sr.ka_cons Sr.kv_int Sr.ka_nil); (case h => (refine' Sr.kv_tup ?l ?z ?t; (case l => k_is); (case z => decide); (case t => exact (Sr.ka_cons Sr.kv_str (Sr.ka_cons Sr.kv_str Sr.ka_nil))))))))); (case y2 => (refine' Sr.kv_tup ?l ?z ?t; (case l => k_is); (case z => decide); (case t => (refine' Sr.ka_cons ?h (Sr.ka_cons Sr.kv_int Sr.ka_nil); (case h => (refine' Sr.kv_tup ?l ?z ?t; (case l => k_is); (case z => decide); (case t => exact (Sr.ka_cons Sr.kv_str (Sr.ka_cons Sr.kv_str Sr.ka_nil))))))))); (case y3 => (refine' Sr.kv_tup ?l ?z ?t; (case l => k_is); (case z => decide); (case t => (refine' Sr.ka_cons ?h (Sr.ka_cons Sr.kv_int Sr.ka_nil); (case h => (refine' Sr.kv_tup ?l ?z ?t; (case l => k_is); (case z => decide); (case t => exact (Sr.ka_cons Sr.kv_str (Sr.ka_cons Sr.kv_str (Sr.ka_cons Sr.kv_str Sr.ka_nil)))))))))); (case y4 => (refine' Sr.kv_tup ?l ?z ?t; (case l => k_is); (case z => decide); (case t => (refine' Sr.ka_cons ?h (Sr.ka_cons Sr.kv_int Sr.ka_nil); (case h => (refine' Sr.kv_tup ?l ?z ?t; (case l => k_is); (case z => decide); (case t => exact (Sr.ka_cons Sr.kv_str (Sr.ka_cons Sr.kv_str (Sr.ka_cons Sr.kv_str (Sr.ka_cons Sr.kv_str Sr.ka_nil)))))))))))))))
        (case v3 => (refine' Sr.kv_tup ?l ?z ?t; (case l => k_is); (case z => decide); (case t => (refine' (Sr.ka_cons ?y0 (Sr.ka_cons ?y1 (Sr.ka_cons ?y2 (Sr.ka_cons ?y3 (Sr.ka_cons ?y4 Sr.ka_nil))))); (case y0 => (refine' Sr.kv_tup ?l ?z ?t; (case l => k_is); (case z => decide); (case t => (refine' Sr.ka_cons ?h (Sr.ka_cons Sr.kv_int Sr.ka_nil); (case h => (refine' Sr.kv_tup ?l ?z ?t; (case l => k_is); (case z => decide); (case t => exact (Sr.ka_cons Sr.kv_str Sr.ka_nil)))))))); (case y1 => (refine' Sr.kv_tup ?l ?z ?t; (case l => k_is); (case z => decide); (case t => (refine' Sr.ka_cons ?h (Sr.ka_cons Sr.kv_int Sr.ka_nil); (case h => (refine' Sr.kv_tup ?l ?z ?t; (case l => k_is); (case z => decide); (case t => exact (Sr.ka_cons Sr.kv_str (Sr.ka_cons Sr.kv_str Sr.ka_nil))))))))); (case y2 => (refine' Sr.kv_tup ?l ?z ?t; (case l => k_is); (case z => decide); (case t => (refine' Sr.ka_cons ?h (Sr.ka_cons Sr.kv_int Sr.ka_nil); (case h => (refine' Sr.kv_tup ?l ?z ?t; (case l => k_is); (case z => decide); (case t => exact (Sr.ka_cons Sr.kv_str (Sr.ka_cons Sr.kv_str Sr.ka_nil))))))))); (case y3 => (refine' Sr.kv_tup ?l ?z ?t; (case l => k_is); (case z => decide); (case t => (refine' Sr.ka_cons ?h (Sr.ka_cons Sr.kv_int Sr.ka_nil); (case h => (refine' Sr.kv_tup ?l ?z ?t; (case l => k_is); (case z => decide); (case t => exact (Sr.ka_cons Sr.kv_str (Sr.ka_cons Sr.kv_str Sr.ka_nil))))))))); (case y4 => (refine' Sr.kv_tup ?l ?z ?t; (case l => k_is); (case z => decide); (case t => (refine' Sr.ka_cons ?h (Sr.ka_cons Sr.kv_int Sr.ka_nil); (case h => (refine' Sr.kv_tup ?l ?z ?t; (case l => k_is); (case z => decide); (case t => exact (Sr.ka_cons Sr.kv_str (Sr.ka_cons Sr.kv_str (Sr.ka_cons Sr.kv_str (Sr.ka_cons Sr.kv_str Sr.ka_nil)))))))))))))))
        (case v4 => (refine' Sr.kv_tup ?l ?z ?t; (case l => k_is); (case z => decide); (case t => (refine' (Sr.ka_cons ?y0 (Sr.ka_cons ?y1 (Sr.ka_cons ?y2 Sr.ka_nil))); (case y0 => (refine' Sr.kv_tup ?l ?z ?t; (case l => k_is); (case z => decide); (case t => (refine' Sr.ka_cons ?h (Sr.ka_cons Sr.kv_int Sr.ka_nil); (case h => (refine' Sr.kv_tup ?l ?z ?t; (case l => k_is); (case z => decide); (case t => exact (Sr.ka_cons Sr.kv_str Sr.ka_nil)))))))); (case y1 => (refine' Sr.kv_tup ?l ?z ?t; (case l => k_is); (case z => decide); (case t => (refine' Sr.ka_cons ?h (Sr.ka_cons Sr.kv_int Sr.ka_nil); (case h => (refine' Sr.kv_tup ?l ?z ?t; (case l => k_is); (case z => decide); (case t => exact (Sr.ka_cons Sr.kv_str (Sr.ka_cons Sr.kv_str Sr.ka_nil))))))))); (case y2 => (refine' Sr.kv_tup ?l ?z ?t; (case l => k_is); (case z => decide); (case t => (refine' Sr.ka_cons ?h (Sr.ka_cons Sr.kv_int Sr.ka_nil); (case h => (refine' Sr.kv_tup ?l ?z ?t; (case l => k_is); (case z => decide); (case t => exact (Sr.ka_cons Sr.kv_str (Sr.ka_cons Sr.kv_str Sr.ka_nil)))))))))))))
        (case v5 => (refine' Sr.kv_tup ?l ?z ?t; (case l => k_is); (case z => decide); (case t => (refine' (Sr.ka_cons ?y0 (Sr.ka_cons ?y1 (Sr.ka_cons ?y2 (Sr.ka_cons ?y3 (Sr.ka_cons ?y4 Sr.ka_nil))))); (case y0 => (refine' Sr.kv_tup ?l ?z ?t; (case l => k_is); (case z => decide); (case t => (refine' Sr.ka_cons ?h (Sr.ka_cons Sr.kv_int Sr.ka_nil); (case h => (refine' Sr.kv_tup ?l ?z ?t; (case l => k_is); (case z => decide); (case t => exact (Sr.ka_cons Sr.kv_str Sr.ka_nil)))))))); (case y1 => (refine' Sr.kv_tup ?l ?z ?t; (case l => k_is); (case z => decide); (case t => (refine' Sr.ka_cons ?h (Sr.ka_cons Sr.kv_int Sr.ka_nil); (case h => (refine' Sr.kv_tup ?l ?z ?t; (case l => k_is); (case z => decide); (case t => exact (Sr.ka_cons Sr.kv_str (Sr.ka_cons Sr.kv_str Sr.ka_nil))))))))); (case y2 => (refine' Sr.kv_tup ?l ?z ?t; (case l => k_is); (case z => decide); (case t => (refine' Sr.ka_cons ?h (Sr.ka_cons Sr.kv_int Sr.ka_nil); (case h => (refine' Sr.kv_tup ?l ?z ?t; (case l => k_is); (case z => decide); (case t => exact (Sr.ka_cons Sr.kv_str (Sr.ka_cons Sr.kv_str (Sr.ka_cons Sr.kv_str Sr.ka_nil)))))))))); (case y3 => (refine' Sr.kv_tup ?l ?z ?t; (case l => k_is); (case z => decide); (case t => (refine' Sr.ka_cons ?h (Sr.ka_cons Sr.kv_int Sr.ka_nil); (case h => (refine' Sr.kv_tup ?l ?z ?t; (case l => k_is); (case z => decide); (case t => exact (Sr.ka_cons Sr.kv_str (Sr.ka_cons Sr.kv_str (Sr.ka_cons Sr.kv_str Sr.ka_nil)))))))))); (case y4 => (refine' Sr.kv_tup ?l ?z ?t; (case l => k_is); (case z => decide); (case t => (refine' Sr.ka_cons ?h (Sr.ka_cons Sr.kv_int Sr.ka_nil); (case h => (refine' Sr.kv_tup ?l ?z ?t; (case l => k_is); (case z => decide); (case t => exact (Sr.ka_cons Sr.kv_str (Sr.ka_cons Sr.kv_str (Sr.ka_cons Sr.kv_str (Sr.ka_cons Sr.kv_str Sr.ka_nil)))))))))))))))
        (case a2 => k_is)
        (case l2 => k_is)
        (case k2 => exact Sr.keysB)
        (case f1 => rfl)
        (case f2 => rfl)
        (case x1 => (refine' Sr.kv_tup ?l ?z ?t; (case l => k_is); (case z => decide); (case t => (refine' (Sr.ka_cons ?y0 (Sr.ka_cons ?y1 (Sr.ka_cons ?y2 (Sr.ka_cons ?y3 (Sr.ka_cons ?y4 Sr.ka_nil))))); (case y0 => (refine' Sr.kv_tup ?l ?z ?t; (case l => k_is); (case z => decide); (case t => (refine' Sr.ka_cons ?h (Sr.ka_cons Sr.kv_int Sr.ka_nil); (case h => (refine' Sr.kv_tup ?l ?z ?t; (case l => k_is); (case z => decide); (case t => exact (Sr.ka_cons Sr.kv_str Sr.ka_nil)))))))); (case y1 => (refine' Sr.kv_tup ?l ?z ?t; (case l => k_is); (case z => decide); (case t => (refine' Sr.ka_cons ?h (Sr.ka_cons Sr.kv_int Sr.ka_nil); (case h => (refine' Sr.kv_tup ?l ?z ?t; (case l => k_is); (case z => decide); (case t => exact (Sr.ka_cons Sr.kv_str Sr.ka_nil)))))))); (case y2 => (refine' Sr.kv_tup ?l ?z ?t; (case l => k_is); (case z => decide); (case t => (refine' Sr.ka_cons ?h (Sr.ka_cons Sr.kv_int Sr.ka_nil); (case h => (refine' Sr.kv_tup ?l ?z ?t; (case l => k_is); (case z => decide); (case t => exact (Sr.ka_cons Sr.kv_str (Sr.ka_cons Sr.kv_str Sr.ka_nil))))))))); (case y3 => (refine' Sr.kv_tup ?l ?z ?t; (case l => k_is); (case z => decide); (case t => (refine' Sr.ka_cons ?h (Sr.ka_cons Sr.kv_int Sr.ka_nil); (case h => (refine' Sr.kv_tup ?l ?z ?t; (case l => k_is); (case z => decide); (case t => exact (Sr.ka_cons Sr.kv_str (Sr.ka_cons Sr.kv_str (Sr.ka_cons Sr.kv_str Sr.ka_nil)))))))))); (case y4 => (refine' Sr.kv_tup ?l ?z ?t; (case l => k_is); (case z => decide); (case t => (refine' Sr.ka_cons ?h (Sr.ka_cons Sr.kv_int Sr.ka_nil); (case h => (refine' Sr.kv_tup ?l ?z ?t; (case l => k_is); (case z => decide); (case t => exact (Sr.ka_cons Sr.kv_str (Sr.ka_cons Sr.kv_str (Sr.ka_cons Sr.kv_str Sr.ka_nil))))))))))))))
        (case x2 => (refine' Sr.kv_tup ?l ?z ?t; (case l => k_is); (case z => decide); (case t => (refine' (Sr.ka_cons ?y0 (Sr.ka_cons ?y1 (Sr.ka_cons ?y2 (Sr.ka_cons ?y3 (Sr.ka_cons ?y4 Sr.ka_nil))))); (case y0 => (refine' Sr.kv_tup ?l ?z ?t; (case l => k_is); (case z => decide); (case t => (refine' Sr.ka_cons ?h (Sr.ka_cons Sr.kv_int Sr.ka_nil); (case h => (refine' Sr.kv_tup ?l ?z ?t; (case l => k_is); (case z => decide); (case t => exact (Sr.ka_cons Sr.kv_str Sr.ka_nil)))))))); (case y1 => (refine' Sr.kv_tup ?l ?z ?t; (case l => k_is); (case z => decide); (case t => (refine' Sr.ka_cons ?h (Sr.ka_cons Sr.kv_int Sr.ka_nil); (case h => (refine' Sr.kv_tup ?l ?z ?t; (case l => k_is); (case z => decide); (case t => exact (Sr.ka_cons Sr.kv_str (Sr.ka_cons Sr.kv_str Sr.ka_nil))))))))); (case y2 => (refine' Sr.kv_tup ?l ?z ?t; (case l => k_is); (case z => decide); (case t => (refine' Sr.ka_cons ?h (Sr.ka_cons Sr.kv_int Sr.ka_nil); (case h => (refine' Sr.kv_tup ?l ?z ?t; (case l => k_is); (case z => decide); (case t => exact (Sr.ka_cons Sr.kv_str (Sr.ka_cons Sr.kv_str (Sr.ka_cons Sr.kv_str Sr.ka_nil)))))))))); (case y3 => (refine' Sr.kv_tup ?l ?z ?t; (case l => k_is); (case z => decide); (case t => (refine' Sr.ka_cons ?h (Sr.ka_cons Sr.kv_int Sr.ka_nil); (case h => (refine' Sr.kv_tup ?l ?z ?t; (case l => k_is); (case z => decide); (case t => exact (Sr.ka_cons Sr.kv_str (Sr.ka_cons Sr.kv_str (Sr.ka_cons Sr.kv_str Sr.ka_nil)))))))))); (case y4 => (refine' Sr.kv_tup ?l ?z ?t; (case l => k_is); (case z => decide); (case t => (refine' Sr.ka_cons ?h (Sr.ka_cons Sr.kv_int Sr.ka_nil); (case h => (refine' Sr.kv_tup ?l ?z ?t; (case l => k_is); (case z => decide); (case t => exact (Sr.ka_cons Sr.kv_str (Sr.ka_cons Sr.kv_str (Sr.ka_cons Sr.kv_str (Sr.ka_cons Sr.kv_str Sr.ka_nil)))))))))))))))
      (case d_check_word => (refine' Sr.defAt_of KX G ?a ?l ?c ?k; (case a => k_is); (case l => k_is); (case c => k_is); (case k => k_is)))
      (case d_ways_to_break => (refine' Sr.defAt_of KX G ?a ?l ?c ?k; (case a => k_is); (case l => k_is); (case c => k_is); (case k => k_is)))
      (case d_marks_into_black => (refine' Sr.defAt_of KX G ?a ?l ?c ?k; (case a => k_is); (case l => k_is); (case c => k_is); (case k => k_is)))
      (case d_cuts => (refine' Sr.defAt_of KX G ?a ?l ?c ?k; (case a => k_is); (case l => k_is); (case c => k_is); (case k => k_is)))
      (case d_marks_that_close => (refine' Sr.defAt_of KX G ?a ?l ?c ?k; (case a => k_is); (case l => k_is); (case c => k_is); (case k => k_is)))
      (case d_known_marks => (refine' Sr.defAt_of KX G ?a ?l ?c ?k; (case a => k_is); (case l => k_is); (case c => k_is); (case k => k_is)))
      (case d_open_marks => (refine' Sr.defAt_of KX G ?a ?l ?c ?k; (case a => k_is); (case l => k_is); (case c => k_is); (case k => k_is)))
      (case d_gaps_of => (refine' Sr.defAt_of KX G ?a ?l ?c ?k; (case a => k_is); (case l => k_is); (case c => k_is); (case k => k_is)))
      (case d_breaks => (refine' Sr.defAt_of KX G ?a ?l ?c ?k; (case a => k_is); (case l => k_is); (case c => k_is); (case k => k_is)))
      (case d_holds => (refine' Sr.defAt_of KX G ?a ?l ?c ?k; (case a => k_is); (case l => k_is); (case c => k_is); (case k => k_is)))
      (case d_cut_entry => (refine' Sr.defAt_of KX G ?a ?l ?c ?k; (case a => k_is); (case l => k_is); (case c => k_is); (case k => k_is)))
      (case d_steps_of_way => (refine' Sr.defAt_of KX G ?a ?l ?c ?k; (case a => k_is); (case l => k_is); (case c => k_is); (case k => k_is)))
      (case d_shortest_way => (refine' Sr.defAt_of KX G ?a ?l ?c ?k; (case a => k_is); (case l => k_is); (case c => k_is); (case k => k_is)))
      (case d_fewest_steps => (refine' Sr.defAt_of KX G ?a ?l ?c ?k; (case a => k_is); (case l => k_is); (case c => k_is); (case k => k_is)))
      (case d_l_pot => (refine' Sr.defAt_of KX G ?a ?l ?c ?k; (case a => k_is); (case l => k_is); (case c => k_is); (case k => k_is)))
      (case d_l_take => (refine' Sr.defAt_of KX G ?a ?l ?c ?k; (case a => k_is); (case l => k_is); (case c => k_is); (case k => k_is)))
      (case d_l_of => (refine' Sr.defAt_of KX G ?a ?l ?c ?k; (case a => k_is); (case l => k_is); (case c => k_is); (case k => k_is)))
      (case d_l_marks => (refine' Sr.defAt_of KX G ?a ?l ?c ?k; (case a => k_is); (case l => k_is); (case c => k_is); (case k => k_is)))
      (case d_l_groups => (refine' Sr.defAt_of KX G ?a ?l ?c ?k; (case a => k_is); (case l => k_is); (case c => k_is); (case k => k_is)))
      (case d_l_table => (refine' Sr.defAt_of KX G ?a ?l ?c ?k; (case a => k_is); (case l => k_is); (case c => k_is); (case k => k_is)))
      (case d_l_ended => (refine' Sr.defAt_of KX G ?a ?l ?c ?k; (case a => k_is); (case l => k_is); (case c => k_is); (case k => k_is)))
      (case d_l_reached => (refine' Sr.defAt_of KX G ?a ?l ?c ?k; (case a => k_is); (case l => k_is); (case c => k_is); (case k => k_is)))
      (case d_l_covered => (refine' Sr.defAt_of KX G ?a ?l ?c ?k; (case a => k_is); (case l => k_is); (case c => k_is); (case k => k_is)))
      (case d_l_has => (refine' Sr.defAt_of KX G ?a ?l ?c ?k; (case a => k_is); (case l => k_is); (case c => k_is); (case k => k_is)))
      (case d_l_with => (refine' Sr.defAt_of KX G ?a ?l ?c ?k; (case a => k_is); (case l => k_is); (case c => k_is); (case k => k_is)))
      (case d_l_kind => (refine' Sr.defAt_of KX G ?a ?l ?c ?k; (case a => k_is); (case l => k_is); (case c => k_is); (case k => k_is)))
      (case d_l_load => (refine' Sr.defAt_of KX G ?a ?l ?c ?k; (case a => k_is); (case l => k_is); (case c => k_is); (case k => k_is)))
      (case d_l_store => (refine' Sr.defAt_of KX G ?a ?l ?c ?k; (case a => k_is); (case l => k_is); (case c => k_is); (case k => k_is)))
      (case d_l_own_after => (refine' Sr.defAt_of KX G ?a ?l ?c ?k; (case a => k_is); (case l => k_is); (case c => k_is); (case k => k_is)))
      (case d_l_choices => (refine' Sr.defAt_of KX G ?a ?l ?c ?k; (case a => k_is); (case l => k_is); (case c => k_is); (case k => k_is)))
      (case d_l_start => (refine' Sr.defAt_of KX G ?a ?l ?c ?k; (case a => k_is); (case l => k_is); (case c => k_is); (case k => k_is)))
      (case d_l_any_table => (refine' Sr.defAt_of KX G ?a ?l ?c ?k; (case a => k_is); (case l => k_is); (case c => k_is); (case k => k_is)))
      (case d_l_words => (refine' Sr.defAt_of KX G ?a ?l ?c ?k; (case a => k_is); (case l => k_is); (case c => k_is); (case k => k_is)))
      (case d_l_collects => (refine' Sr.defAt_of KX G ?a ?l ?c ?k; (case a => k_is); (case l => k_is); (case c => k_is); (case k => k_is)))
      (case d_l_small_heap => (refine' Sr.defAt_of KX G ?a ?l ?c ?k; (case a => k_is); (case l => k_is); (case c => k_is); (case k => k_is)))
      (case d_l_later => (refine' Sr.defAt_of KX G ?a ?l ?c ?k; (case a => k_is); (case l => k_is); (case c => k_is); (case k => k_is)))
      (case d_l_least => (refine' Sr.defAt_of KX G ?a ?l ?c ?k; (case a => k_is); (case l => k_is); (case c => k_is); (case k => k_is)))
      (case d_law => (refine' Sr.defAt_of KX G ?a ?l ?c ?k; (case a => k_is); (case l => k_is); (case c => k_is); (case k => k_is)))
