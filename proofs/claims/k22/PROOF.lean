import PyProof.Rows.All
import Wide.All
import OpenK.AllK
import Wide.FinOn
import HandS.ForMost
import HandS.ForExc
import HandS.TupAny
import HandS.TupLe
import HandS.CallSlots
import HandS.SortInts
import HandS.Conv
import HandS.WordsExc
import HandS.Ends
import HandS.TupMul
import HandS.SetFor
import HandS.SetKeys
import HandS.TupSets
import HandS.Strs
import HandS.More
import HandS.TupLen
import HandS.Zip
import KE.GoesEnum
import HandS.IsInst
import HandS.Style
import KE.DataFind
import PySem.Challenge.RW_smallrooms_k22_whole_behind
set_option Elab.async false
set_option linter.unusedVariables false
set_option maxRecDepth 100000
set_option pp.maxSteps 60
set_option linter.all false
set_option maxRecDepth 100000
set_option maxHeartbeats 0
/-! Sets of keys (ints, texts) with what their table tells, so that they may be walked and sorted. -/
namespace SR
open PySem PySem.Spec PyProof.Rows L2
variable {P : Program} {w : World} {A : Around} {E : Value → Shared → Prop} {s : Shared}
/-- an entry's key -/
def kOf (e : Int × Value) : Key := match e.2 with
  | .int i _ => .inl i
  | .str x _ => .inr x
  | _ => .inl 0
def EntK (w : World) (e : Int × Value) : Prop := ∃ k, RelV (kV k) e.2 ∧ e.1 = keyH w k
theorem kOf_rel {k : Key} {e : Int × Value} (r : RelV (kV k) e.2) : kOf e = k := by
  obtain ⟨h, u⟩ := e
  cases k with
  | inl i => obtain ⟨t, rfl⟩ := r; rfl
  | inr x => obtain ⟨t, rfl⟩ := r; rfl
theorem ent_elems {l : List (Int × Value)} (q : ∀ e ∈ l, EntK w e) : ElemsOf (mixKind P w) l := fun e he => by
  obtain ⟨k, r, z⟩ := q e he
  exact ⟨⟨k, kV_is r, z⟩, key_scan r⟩
theorem ent_is {e : Int × Value} (q : EntK w e) (k : Key) : (mixKind P w).is k e.2 = true ↔ kOf e = k := by
  obtain ⟨k0, r, _⟩ := q
  rw [kOf_rel r]
  constructor
  · intro z
    exact (mixKind P w).inj e.2 k0 k (kV_is r) z
  · intro z
    rw [← z]
    exact kV_is r
theorem ent_mem {l : List (Int × Value)} (q : ∀ e ∈ l, EntK w e) (k : Key) : k ∈ l.map kOf ↔ ∃ e ∈ l, (mixKind P w).is k e.2 = true := by
  rw [List.mem_map]
  constructor
  · rintro ⟨e, he, z⟩
    exact ⟨e, he, (ent_is (q e he) k).2 z⟩
  · rintro ⟨e, he, z⟩
    exact ⟨e, he, (ent_is (q e he) k).1 z⟩
/-- the set at p: M tells its members, c how many -/
def SetM (w : World) (h : Heap) (p : Addr) (M : Key → Bool) (c : Nat) : Prop :=
  ∃ ob rows ep tab, h.get? p = some ob ∧ ob.ExactSet ∧ ob.data = .set rows ep tab ∧
    (∀ e ∈ rows.toList, EntK w e) ∧ (rows.toList.map kOf).Nodup ∧
    (∀ k, M k = true ↔ k ∈ rows.toList.map kOf) ∧ rows.size < scanBound ∧
    tab.fits rows.size = true ∧ rows.size = c ∧ Ris tab.place.toList ∧
    (w.params.followText "set-order" = true ∨ tab.led = true)
theorem SetM.keep {h h' : Heap} {p : Addr} {M : Key → Bool} {c : Nat} (m : SetM w h p M c) (k : ∀ o, h.get? p = some o → h'.get? p = some o) : SetM w h' p M c := by
  obtain ⟨ob, rows, ep, tab, at0, r⟩ := m
  exact ⟨ob, rows, ep, tab, k ob at0, r⟩
theorem SetM.same {h : Heap} {p : Addr} {M M' : Key → Bool} {c : Nat} (m : SetM w h p M c) (e : ∀ k, M' k = M k) : SetM w h p M' c := by
  obtain rfl : M' = M := funext e
  exact m
/-- an empty set, as it is laid -/
abbrev SO (w : World) : Obj :=
  { cls := .type "set", dict := none,
    data := .set #[] 0 (.fresh 0 0 (!w.params.followText "set-order")) }
theorem setM_new {h : Heap} {p : Addr} (at0 : h.get? p = some (SO w)) : SetM w h p (fun _ => false) 0 := by
  refine ⟨_, #[], 0, _, at0, ⟨rfl, rfl, rfl⟩, rfl, fun e he => ?_, ?_, fun k => ?_, by decide, by rfl, rfl, List.Pairwise.nil, ?_⟩
  · simp at he
  · simp
  · simp
  · show _ ∨ (!w.params.followText "set-order") = true
    cases w.params.followText "set-order" with
    | true => exact .inl rfl
    | false => exact .inr rfl
theorem setM_tail {g : Bool → Sem Unit} (quiet : ∀ (b : Bool) (s₁ : Shared) (Q' : Unit → Shared → Prop), Q' () s₁ → wpAny (model P w) A (g b) Q' E s₁)
    {p : Addr} {ob : Obj} {rows : Array (Int × Value)} {ep : Nat} {tab : SetTable} (at0 : s.heap.get? p = some ob) (ex : ob.ExactSet) (dat : ob.data = .set rows ep tab)
    {rows1 : Array (Int × Value)} {tab2 : SetTable} {M' : Key → Bool} (ent1 : ∀ e ∈ rows1.toList, EntK w e) (nod1 : (rows1.toList.map kOf).Nodup) (mem1 : ∀ k, M' k = true ↔ k ∈ rows1.toList.map kOf)
    (bnd1 : rows1.size < scanBound) (fit2 : tab2.fits rows1.size = true) (ris2 : Ris tab2.place.toList) (led2 : w.params.followText "set-order" = true ∨ tab2.led = true) {wasD : Bool} {R : Option Bool → Shared → Prop}
    (fin : ∀ h', Heap.SameBut p s.heap h' → SetM w h' p M' rows1.size → R (some true) { s with heap := h' }) :
    wpAny (model P w) A (do
        storeSet p rows1 tab2
        if (!wasD && tab2.tooFull) = true then do
            g (relayAll tab2 rows1 (SetTable.grown rows1.size)).2.2
            storeSet p (relayAll tab2 rows1 (SetTable.grown rows1.size)).1 (relayAll tab2 rows1 (SetTable.grown rows1.size)).2.1
            pure (some true)
          else pure (some true)) R E s := by
  refine wpAny_bind (wpAny_storeSet_of at0 dat ?_ (fits_of_scanBound bnd1))
  have at1 := store_at (es' := rows1) (t' := tab2) at0 dat
  have but1 := Heap.SameBut.update s.heap p (Obj.putSet rows1 tab2)
  split
  · have pm := relayAll_perm tab2 rows1 (SetTable.grown rows1.size)
    have f3 := relayAll_fits tab2 rows1 (SetTable.grown rows1.size)
    have r3 := relayAll_ris tab2 rows1 (SetTable.grown rows1.size)
    have l3 := relayAll_led tab2 rows1 (SetTable.grown rows1.size)
    generalize relayAll tab2 rows1 (SetTable.grown rows1.size) = Z at pm f3 r3 l3 ⊢
    obtain ⟨rows2, tab3, gave⟩ := Z
    dsimp only at pm f3 r3 l3 ⊢
    have siz : rows2.size = rows1.size := by
      rw [← Array.length_toList, pm.length_eq, Array.length_toList]
    have bnd2 : rows2.size < scanBound := siz ▸ bnd1
    refine wpAny_bind (quiet _ _ _ ?_)
    refine wpAny_bind (wpAny_storeSet_of at1 rfl ?_ (fits_of_scanBound bnd2))
    have at2 := store_at (es' := rows2) (t' := tab3) at1 rfl
    refine wpAny_pure (fin _ (but1.trans (Heap.SameBut.update _ p _)) ?_)
    refine ⟨_, rows2, _, tab3, at2, ex, rfl, fun e he => ent1 e (pm.mem_iff.mp he), (pm.map kOf).nodup_iff.mpr nod1, fun k => ?_, bnd2, f3, siz, r3, ?_⟩
    · exact (mem1 k).trans (pm.map kOf).mem_iff.symm
    · exact led2.imp id fun z => by rw [l3]; exact z
  · exact wpAny_pure (fin _ but1 ⟨_, rows1, _, tab2, at1, ex, rfl, ent1, nod1, mem1, bnd1, fit2, rfl, ris2, led2⟩)
theorem setM_add {p : Addr} {M : Key → Bool} {c : Nat} {k : Key} {u : Value} {Q : Bool → Shared → Prop} (ru : RelV (kV k) u) (m : SetM w s.heap p M c) (room : c + 1 < scanBound)
    (fin : ∀ h', Heap.SameBut p s.heap h' → SetM w h' p (fun j => M j || decide (j = k)) (if M k = true then c else c + 1) → Q (!M k) { s with heap := h' }) :
    wpAny (model P w) A (setAddHashed p u ((mixKind P w).hash k)) Q E s := by
  obtain ⟨ob, rows, ep, tab, at0, ex, dat, ent, nod, mem, bnd, fit, cnt, ris, led⟩ := m
  have isk : (mixKind P w).is k u = true := kV_is ru
  have scn : u.scannable = true := key_scan ru
  have elm : ElemsOf (mixKind P w) rows.toList := ent_elems ent
  unfold setAddHashed setAddHashedIn
  refine wpAny_holding (wpAny_bind (wpAny_setState_of at0 dat fit ?_))
  dsimp only
  rw [byScan_of scn bnd elm]
  simp only [↓reduceIte]
  unfold setAddByScan
  refine wpAny_bind ?_
  refine wpAny_bind (wpAny_rule ?_)
  refine wpAny_bind (wpAny_setScan_of isk at0 dat fit elm ?_)
  cases fi : List.findIdx? (fun e => (mixKind P w).is k e.2) rows.toList with
  | some j =>
    dsimp only
    obtain ⟨hj, pj, _⟩ := List.findIdx?_eq_some_iff_getElem.mp fi
    have inM : M k = true := (mem k).2 ((ent_mem (P := P) ent k).2 ⟨rows.toList[j], List.getElem_mem hj, pj⟩)
    refine wpAny_pure (wpAny_pure ?_)
    have q := fin s.heap (Heap.SameBut.refl p s.heap) ⟨ob, rows, ep, tab, at0, ex, dat, ent, nod, fun i => by
      rw [Bool.or_eq_true, decide_eq_true_eq, ← mem i]
      exact ⟨fun z => z.elim id (fun e => e ▸ inM), .inl⟩, bnd, fit, by rw [if_pos inM]; exact cnt, ris, led⟩
    rw [inM] at q
    exact q
  | none =>
    dsimp only
    have out : k ∉ rows.toList.map kOf := fun z => by
      obtain ⟨e, he, q⟩ := (ent_mem (P := P) ent k).1 z
      have no := List.findIdx?_eq_none_iff.mp fi e he
      rw [q] at no
      cases no
    have outM : M k = false := by
      cases q : M k with
      | false => rfl
      | true => exact absurd ((mem k).1 q) out
    have way : ∀ (b : Bool) {s₁ : Shared} {Q' : Unit → Shared → Prop}, Q' () s₁ → wpAny (model P w) A (match b with | true => rule "set.scan.the-table-gave-way" | false => pure ()) Q' E s₁ :=
      fun b _ _ q => by
        cases b with
        | true => exact wpAny_rule q
        | false => exact wpAny_pure q
    have pm := layNew_perm tab rows ((mixKind P w).hash k) u
    have f1 := layNew_fits tab rows ((mixKind P w).hash k) u
    have r1 := layNew_ris tab rows ((mixKind P w).hash k) u ris
    have l1 := layNew_led tab rows ((mixKind P w).hash k) u
    generalize layNew tab rows ((mixKind P w).hash k) u = Z at pm f1 r1 l1 ⊢
    obtain ⟨rows1, tab1, wasD, gave⟩ := Z
    dsimp only at pm f1 r1 l1 ⊢
    rw [Array.toList_push] at pm
    have pc : rows1.toList.Perm (((mixKind P w).hash k, u) :: rows.toList) := pm.trans (List.perm_append_singleton _ _)
    have ek : kOf ((mixKind P w).hash k, u) = k := kOf_rel ru
    have pk : (rows1.toList.map kOf).Perm (k :: rows.toList.map kOf) := by
      have z := pc.map kOf
      rw [List.map_cons, ek] at z
      exact z
    have ent1 : ∀ e ∈ rows1.toList, EntK w e := fun e he => by
      rcases List.mem_cons.mp (pc.mem_iff.mp he) with z | z
      · rw [z]; exact ⟨k, ru, rfl⟩
      · exact ent e z
    have nod1 : (rows1.toList.map kOf).Nodup := pk.nodup_iff.mpr (List.nodup_cons.mpr ⟨out, nod⟩)
    have mem1 : ∀ i, (M i || decide (i = k)) = true ↔ i ∈ rows1.toList.map kOf := fun i => by
      rw [Bool.or_eq_true, decide_eq_true_eq, mem i, pk.mem_iff, List.mem_cons]
      exact Or.comm
    have siz : rows1.size = c + 1 := by
      rw [← Array.length_toList, pc.length_eq, List.length_cons, Array.length_toList, cnt]
    have bnd1 : rows1.size < scanBound := siz ▸ room
    have led1 : w.params.followText "set-order" = true ∨ tab1.led = true := led.imp id fun z => by rw [l1]; exact z
    have done : ∀ h', Heap.SameBut p s.heap h' → SetM w h' p (fun j => M j || decide (j = k)) rows1.size → Q true { s with heap := h' } := fun h' sb r => by
      have q := fin h' sb
      rw [outM] at q
      rw [siz] at r
      exact q r
    refine wpAny_bind (way _ ?_)
    split
    · refine wpAny_bind ?_
      rw [hashByValue_scannable 8 scn]
      refine wpAny_pure ?_
      refine setM_tail ?_ at0 ex dat ent1 nod1 mem1 bnd1 ?_ ?_ ?_ ?_
      · intro b s₁ Q' q
        cases b with
        | true => first | exact wpAny_rule q | exact wpAny_pure q
        | false => first | exact wpAny_pure q | exact wpAny_rule q
      · first | (split <;> first | exact f1 | exact SetTable.fits_plain_off f1) | exact f1
      · first | (split <;> exact r1) | exact r1
      · first | (split <;> exact led1) | exact led1
      · intro h' sb r
        dsimp only
        exact wpAny_pure (done h' sb r)
    · refine wpAny_bind (wpAny_pure ?_)
      simp only [↓reduceIte]
      refine setM_tail ?_ at0 ex dat ent1 nod1 mem1 bnd1 f1 r1 led1 ?_
      · intro b s₁ Q' q
        cases b with
        | true => first | exact wpAny_rule q | exact wpAny_pure q
        | false => first | exact wpAny_pure q | exact wpAny_rule q
      · intro h' sb r
        dsimp only
        exact wpAny_pure (done h' sb r)
def inK (ks : List Key) (j : Key) : Bool := ks.any fun k => decide (j = k)
theorem inK_iff {ks : List Key} {j : Key} : inK ks j = true ↔ j ∈ ks := by
  unfold inK
  rw [List.any_eq_true]
  constructor
  · rintro ⟨k, hk, e⟩
    rw [of_decide_eq_true e]
    exact hk
  · intro h
    exact ⟨j, h, decide_eq_true rfl⟩
/-- the set filled from what is walked -/
theorem fill_keys {I : Addr} {fp wr : List Addr} {GG : Array GenState → Array GenState → Prop} {n : Nat} {Pv : Nat → Value → Prop} {St : Nat → Shared → Prop} {R : Result → Shared → Prop}
    (W : WalksS P w A.in1 I fp wr GG n Pv St) (p : Addr) (pf : p ∉ fp) (ks : List Key) (len : n = ks.length) (bnd : ks.length + 1 < scanBound) (val : ∀ i v, Pv i v → ∃ k, ks[i]? = some k ∧ RelV (kV k) v) :
    ∀ (left i : Nat) (s : Shared), n - i = left → i ≤ n → St i s → (∃ c, c ≤ i ∧ SetM w s.heap p (inK (ks.take i)) c) →
      (∀ s' c, Moved (p :: wr) GG s s' → c ≤ n → SetM w s'.heap p (inK ks) c → R (.ok (.ret .none)) s') →
      codeAny (model P w) A (.builtin "set.update.loop" ⟨[.ref p, .ref I], []⟩) R s := by
  have pw : p ∉ wr := fun h => pf (W.sub _ h)
  have sub : ∀ b ∈ wr, b ∈ p :: wr := fun b hb => List.mem_cons_of_mem _ hb
  intro left
  induction left with
  | zero =>
    intro i s e le st ⟨c, hc, m⟩ fin
    obtain rfl : i = n := by omega
    refine codeAny_builtin F.entry_set_update_loop ?_
    rw [Around.under_plainId F.plain_set_update_loop _]
    show wpAny _ A.in1 (pyNext (.ref I) >>= _) _ _ s
    refine wpAny_bind (W.done s _ _ st fun s' mv => ?_)
    show wpAny _ A.in1 (ret Value.none) _ _ s'
    have tk : ks.take i = ks := List.take_of_length_le (by omega)
    rw [tk] at m
    exact wpAny_pure (fin s' c (mv.mono sub) hc (m.keep fun o z => mv.heap p o pw z))
  | succ left ih =>
    intro i s e le st ⟨c, hc, m⟩ fin
    have lt : i < n := by omega
    refine codeAny_builtin F.entry_set_update_loop ?_
    rw [Around.under_plainId F.plain_set_update_loop _]
    show wpAny _ A.in1 (pyNext (.ref I) >>= _) _ _ s
    refine wpAny_bind (W.item i s _ _ lt st fun v s' pv st' mv => ?_)
    obtain ⟨k, hk, ru⟩ := val i v pv
    have m' : SetM w s'.heap p (inK (ks.take i)) c := m.keep fun o z => mv.heap p o pw z
    show wpAny _ A.in1 (holding [v] (setAdd p v) >>= _) _ _ s'
    refine wpAny_bind (wpAny_holding ?_)
    unfold setAdd
    refine wpAny_holding ?_
    refine wpAny_bind ((mixKind P w).pyHash (k := k) (kV_is ru) ?_)
    refine setM_add (s := { s' with toks := s'.toks + 1 }) ru m' (by omega) fun h' sb m2 => ?_
    have m3 : SetM w h' p (inK (ks.take (i + 1))) (if inK (ks.take i) k = true then c else c + 1) := m2.same fun j => by
      rw [List.take_add_one, hk]
      unfold inK
      rw [List.any_append]
      simp
    have c3 : (if inK (ks.take i) k = true then c else c + 1) ≤ i + 1 := by
      split <;> omega
    refine wpAny_pure ⟨plainId_quiet F.plain_set_update_loop _, ih (i + 1) _ (by omega) lt (W.frame _ s' _ _ st' (Nat.le_succ _) fun b hb o z => ?_) ⟨_, c3, m3⟩ fun s'' c2 mv2 hc2 m4 => ?_⟩
    · rw [sb.2 b (fun h : b = p => pf (h ▸ hb))]
      exact z
    · refine fin s'' c2 (Moved.trans W.gtrans ((mv.mono sub).then_heap (Nat.le_succ _) fun b o hb z => ?_) mv2) hc2 m4
      rw [sb.2 b (fun h : b = p => hb (h ▸ List.mem_cons_self))]
      exact z

abbrev SH (w : World) (s : Shared) : Heap := s.heap.push (SO w)
abbrev kept (h h' : Heap) : Prop := ∀ b o, h.get? b = some o → h'.get? b = some o
/-- what the list's items make of it -/
abbrev Filled (w : World) (s : Shared) (ks : List Key) (r : Value) (t : Shared) : Prop :=
  r = .none ∧ ∃ h' tk c, t = { s with heap := h', toks := tk } ∧
    SetM w h' s.heap.objs.size (inK ks) c ∧ c ≤ ks.length ∧ kept s.heap h'
theorem key_at {ks : List Key} {us : List Value} (r : Vals (ks.map kV) us) : ∀ (i : Nat) (v : Value), us[i]? = some v → ∃ k, ks[i]? = some k ∧ RelV (kV k) v := by
  induction ks generalizing us with
  | nil =>
    cases r
    intro i v h
    simp at h
  | cons k ks ih =>
    cases r with
    | cons r1 r2 =>
      intro i v h
      cases i with
      | zero =>
        simp at h
        subst h
        exact ⟨k, rfl, r1⟩
      | succ i => exact ih r2 i v (by simpa using h)
theorem fill_list {l : Addr} {its : Array Value} (ks : List Key) (hh : A.handled = none)
    (isl : s.heap.IsList l its) (rv : Vals (ks.map kV) its.toList) (bnd : ks.length + 1 < scanBound) :
    wpAny (model P w) A.in1.in1 (Builtin.«set.__init__» ⟨[.ref s.heap.objs.size] ++ [.ref l], []⟩)
      (fun r t => match r with
        | Fin.done f => wants (Filled w s ks) E (Except.ok f) t
        | Fin.again c => c.quiet = true ∧ codeAny (model P w) A.in1 c (wants (Filled w s ks) E) t)
      (fun e t => wants (Filled w s ks) E (Except.error e) t) { s with heap := SH w s } := by
  have siz : its.size = ks.length := by
    have q := rv.length
    rw [List.length_map, Array.length_toList] at q
    exact q.symm
  have val : ∀ (i : Nat) (v : Value), its[i]? = some v → ∃ k, ks[i]? = some k ∧ RelV (kV k) v := fun i v h => key_at rv i v (by rw [Array.getElem?_toList]; exact h)
  obtain ⟨⟨lc, ld, lt, ls⟩, hol, e1, nl, e2⟩ := isl
  simp only at e1 e2
  subst e1
  subst e2
  have at0 : (SH w s).get? s.heap.objs.size = some (SO w) := Heap.get?_push_size _ rfl
  have atl := Heap.get?_push_of_some (SO w) hol
  have n1 := F.sub_list_set
  have n2 := F.sub_list_frozenset
  have n3 : (Value.type "list" == Value.type "dict") = false := by decide
  have isl1 : (SH w s).IsList l its := ⟨_, atl, rfl, nl, rfl⟩
  have low : l < s.heap.objs.size := Heap.lt_size hol
  have size1 : (SH w s).objs.size = s.heap.objs.size + 1 := Heap.size_push ..
  have neI : l ≠ (SH w s).objs.size := by rw [size1]; exact Nat.ne_of_lt (Nat.lt_succ_of_lt low)
  have pf : s.heap.objs.size ∉ [(SH w s).objs.size, l] := by
    rw [size1]
    simp only [List.mem_cons, List.not_mem_nil, or_false, not_or]
    exact ⟨Nat.ne_of_lt (Nat.lt_succ_self _), Nat.ne_of_gt low⟩
  unfold Builtin.«set.__init__» noKeywords Builtin.Frozenset.updateFrom
  generalize same : pyIter = it
  wp_walk
  subst same
  refine wpAny_pyIter_list isl1 ?_
  refine wpAny_bind (wpAny_runValue ?_)
  have hh3 : A.in1.in1.in1.handled = none := by simp [hh]
  refine fill_keys ((Walks.list hh3 _ l neI its).toS) s.heap.objs.size pf ks siz bnd val (its.size - 0) 0 _ (by omega) (Nat.zero_le _)
    ⟨⟨_, Heap.get?_push_size _ rfl, rfl, rfl⟩, isl1.push _⟩ ?start ?fin
  case start =>
    have new : ((SH w s).push { cls := .type "list_iterator", data := .fields #[.ref l, .int 0 0] }).get? s.heap.objs.size = some (SO w) := Heap.get?_push_of_some _ at0
    exact ⟨0, Nat.le_refl 0, (setM_new new).same fun k => by unfold inK; simp⟩
  case fin =>
    intro s' c' mv hc' m'
    obtain ⟨h', g2, d', tk', os'⟩ := s'
    obtain rfl : g2 = s.gens := mv.gens
    obtain rfl : d' = s.drawn := mv.drawn
    obtain rfl : os' = s.os := mv.os
    show wpAny _ _ _ _ _ _
    refine wpAny_pure ?_
    show wpAny _ _ (ret Value.none) _ _ _
    rw [siz] at hc'
    refine wpAny_pure ⟨rfl, h', tk', c', rfl, m', hc', fun b o z => ?_⟩
    have b0 : b < s.heap.objs.size := Heap.lt_size z
    refine mv.heap b o ?_ (Heap.get?_push_of_some _ (Heap.get?_push_of_some _ z))
    simp only [List.mem_cons, List.not_mem_nil, or_false, not_or]
    refine ⟨Nat.ne_of_lt b0, ?_⟩
    rw [size1]
    exact Nat.ne_of_lt (Nat.lt_succ_of_lt b0)
/-- set(xs), xs a list of keys -/
theorem call_set_keys {l : Addr} {its : Array Value} (ks : List Key) {Q : Value → Shared → Prop} (hh : A.handled = none) (isl : s.heap.IsList l its) (rv : Vals (ks.map kV) its.toList) (bnd : ks.length + 1 < scanBound)
    (fin : ∀ (h' : Heap) (tk c : Nat), SetM w h' s.heap.objs.size (inK ks) c → c ≤ ks.length → kept s.heap h' → Q (.ref s.heap.objs.size) { s with heap := h', toks := tk }) :
    wpAny (model P w) A (call (.type "set") [.ref l]) Q E s := by
  obtain ⟨cls, tail, mro⟩ := F.called_set.mro
  have made := F.called_set.made
  have sub := F.called_set.sub
  refine wpAny_call (codeAny_of_tree ?_)
  show wpAny _ _ (callAny (.type "set") _) _ _ _
  refine wpAny_pure ⟨Code.quiet_builtin _ (by decide +kernel), codeAny_builtin F.entry_type_call ?_⟩
  rw [Around.under_plain (weight_type_call_type "set" [.ref l] []) rfl]
  have notT := F.called_set.notType
  have canC := F.called_set.canCreate
  have typC := F.typeCall_set_1 (.ref l)
  repeat (any_goals (first | assumption | wp_step))
  refine codeAny_mono (code_set_led1 (.ref l) (E := E) (Q₁ := fun o1 s1 => o1 = .ref s.heap.objs.size ∧ s1 = { s with heap := SH w s }) ⟨rfl, rfl⟩) fun r s1 res => ?_
  cases r with
  | error _ => exact res
  | ok fl =>
    cases fl with
    | ret o1 =>
      obtain ⟨rfl, rfl⟩ := res
      have isS : Shared.TypeIs { s with heap := SH w s } (.ref s.heap.objs.size) "set" := ⟨_, Heap.get?_push_size _ rfl, rfl⟩
      have look := F.called_set.init.lookup
      have bnds := F.called_set.init.bind (.ref s.heap.objs.size)
      repeat (any_goals (first | assumption | wp_step))
      refine codeAny_mono (codeAny_call_builtin (R := wants (Filled w s ks) E) F.called_set.init.plain F.entry_set_init (check_set_init_1 isS ?_)) fun r2 s2 res2 => ?_
      · exact fill_list ks hh isl rv bnd
      cases r2 with
      | error _ => exact res2
      | ok fl2 =>
        cases fl2 with
        | ret r3 =>
          obtain ⟨rfl, h', tk, c, rfl, m', hc, kp⟩ := res2
          repeat (any_goals (first | assumption | wp_step))
          exact fin _ _ _ m' hc kp
        | _ => exact res2.elim
    | _ => exact res.elim
theorem fill_tup {l : Addr} {its : Array Value} (ks : List Key) (hh : A.handled = none)
    (isl : s.heap.IsTuple l its) (rv : Vals (ks.map kV) its.toList) (bnd : ks.length + 1 < scanBound) :
    wpAny (model P w) A.in1.in1 (Builtin.«set.__init__» ⟨[.ref s.heap.objs.size] ++ [.ref l], []⟩)
      (fun r t => match r with
        | Fin.done f => wants (Filled w s ks) E (Except.ok f) t
        | Fin.again c => c.quiet = true ∧ codeAny (model P w) A.in1 c (wants (Filled w s ks) E) t)
      (fun e t => wants (Filled w s ks) E (Except.error e) t) { s with heap := SH w s } := by
  have siz : its.size = ks.length := by
    have q := rv.length
    rw [List.length_map, Array.length_toList] at q
    exact q.symm
  have val : ∀ (i : Nat) (v : Value), its[i]? = some v → ∃ k, ks[i]? = some k ∧ RelV (kV k) v := fun i v h => key_at rv i v (by rw [Array.getElem?_toList]; exact h)
  obtain ⟨⟨lc, ld, lt, ls⟩, hol, e1, nl, e2⟩ := isl
  simp only at e1 e2
  subst e1
  subst e2
  have at0 : (SH w s).get? s.heap.objs.size = some (SO w) := Heap.get?_push_size _ rfl
  have atl := Heap.get?_push_of_some (SO w) hol
  have n1 := F.sub_tuple_set
  have n2 := F.sub_tuple_frozenset
  have n3 : (Value.type "tuple" == Value.type "dict") = false := by decide
  have isl1 : (SH w s).IsTuple l its := ⟨_, atl, rfl, nl, rfl⟩
  have low : l < s.heap.objs.size := Heap.lt_size hol
  have size1 : (SH w s).objs.size = s.heap.objs.size + 1 := Heap.size_push ..
  have neI : l ≠ (SH w s).objs.size := by rw [size1]; exact Nat.ne_of_lt (Nat.lt_succ_of_lt low)
  have pf : s.heap.objs.size ∉ [(SH w s).objs.size, l] := by
    rw [size1]
    simp only [List.mem_cons, List.not_mem_nil, or_false, not_or]
    exact ⟨Nat.ne_of_lt (Nat.lt_succ_self _), Nat.ne_of_gt low⟩
  unfold Builtin.«set.__init__» noKeywords Builtin.Frozenset.updateFrom
  generalize same : pyIter = it
  wp_walk
  subst same
  refine wpAny_pyIter_tuple isl1 ?_
  refine wpAny_bind (wpAny_runValue ?_)
  have hh3 : A.in1.in1.in1.handled = none := by simp [hh]
  refine fill_keys ((Walks.tuple hh3 _ l neI its).toS) s.heap.objs.size pf ks siz bnd val (its.size - 0) 0 _ (by omega) (Nat.zero_le _)
    ⟨⟨_, Heap.get?_push_size _ rfl, rfl, rfl⟩, isl1.push _⟩ ?start ?fin
  case start =>
    have new : ((SH w s).push { cls := .type "tuple_iterator", data := .fields #[.ref l, .int 0 0] }).get? s.heap.objs.size = some (SO w) := Heap.get?_push_of_some _ at0
    exact ⟨0, Nat.le_refl 0, (setM_new new).same fun k => by unfold inK; simp⟩
  case fin =>
    intro s' c' mv hc' m'
    obtain ⟨h', g2, d', tk', os'⟩ := s'
    obtain rfl : g2 = s.gens := mv.gens
    obtain rfl : d' = s.drawn := mv.drawn
    obtain rfl : os' = s.os := mv.os
    show wpAny _ _ _ _ _ _
    refine wpAny_pure ?_
    show wpAny _ _ (ret Value.none) _ _ _
    rw [siz] at hc'
    refine wpAny_pure ⟨rfl, h', tk', c', rfl, m', hc', fun b o z => ?_⟩
    have b0 : b < s.heap.objs.size := Heap.lt_size z
    refine mv.heap b o ?_ (Heap.get?_push_of_some _ (Heap.get?_push_of_some _ z))
    simp only [List.mem_cons, List.not_mem_nil, or_false, not_or]
    refine ⟨Nat.ne_of_lt b0, ?_⟩
    rw [size1]
    exact Nat.ne_of_lt (Nat.lt_succ_of_lt b0)
/-- set(t), t a tuple of keys -/
theorem call_set_keysT {l : Addr} {its : Array Value} (ks : List Key) {Q : Value → Shared → Prop} (hh : A.handled = none) (isl : s.heap.IsTuple l its) (rv : Vals (ks.map kV) its.toList) (bnd : ks.length + 1 < scanBound)
    (fin : ∀ (h' : Heap) (tk c : Nat), SetM w h' s.heap.objs.size (inK ks) c → c ≤ ks.length → kept s.heap h' → Q (.ref s.heap.objs.size) { s with heap := h', toks := tk }) :
    wpAny (model P w) A (call (.type "set") [.ref l]) Q E s := by
  obtain ⟨cls, tail, mro⟩ := F.called_set.mro
  have made := F.called_set.made
  have sub := F.called_set.sub
  refine wpAny_call (codeAny_of_tree ?_)
  show wpAny _ _ (callAny (.type "set") _) _ _ _
  refine wpAny_pure ⟨Code.quiet_builtin _ (by decide +kernel), codeAny_builtin F.entry_type_call ?_⟩
  rw [Around.under_plain (weight_type_call_type "set" [.ref l] []) rfl]
  have notT := F.called_set.notType
  have canC := F.called_set.canCreate
  have typC := F.typeCall_set_1 (.ref l)
  repeat (any_goals (first | assumption | wp_step))
  refine codeAny_mono (code_set_led1 (.ref l) (E := E) (Q₁ := fun o1 s1 => o1 = .ref s.heap.objs.size ∧ s1 = { s with heap := SH w s }) ⟨rfl, rfl⟩) fun r s1 res => ?_
  cases r with
  | error _ => exact res
  | ok fl =>
    cases fl with
    | ret o1 =>
      obtain ⟨rfl, rfl⟩ := res
      have isS : Shared.TypeIs { s with heap := SH w s } (.ref s.heap.objs.size) "set" := ⟨_, Heap.get?_push_size _ rfl, rfl⟩
      have look := F.called_set.init.lookup
      have bnds := F.called_set.init.bind (.ref s.heap.objs.size)
      repeat (any_goals (first | assumption | wp_step))
      refine codeAny_mono (codeAny_call_builtin (R := wants (Filled w s ks) E) F.called_set.init.plain F.entry_set_init (check_set_init_1 isS ?_)) fun r2 s2 res2 => ?_
      · exact fill_tup ks hh isl rv bnd
      cases r2 with
      | error _ => exact res2
      | ok fl2 =>
        cases fl2 with
        | ret r3 =>
          obtain ⟨rfl, h', tk, c, rfl, m', hc, kp⟩ := res2
          repeat (any_goals (first | assumption | wp_step))
          exact fin _ _ _ m' hc kp
        | _ => exact res2.elim
    | _ => exact res.elim
end SR

set_option linter.all false
set_option maxRecDepth 100000
set_option maxHeartbeats 0
/-! enumerate of a tuple. -/
namespace SR
open PySem PySem.Spec PyProof.Rows L2
open Sem (wp)
theorem enum_newT (l : Addr) (items : Array Value) :
    Meets (Builtin.«enumerate.__new__» ⟨[.type "enumerate", .ref l], []⟩) (fun _ R s => s.heap.IsTuple l items ∧
      R (.ok (.ret (.ref (s.heap.push { cls := .type "tuple_iterator", data := .fields #[.ref l, .int 0 0] }).objs.size)))
        { s with heap := (s.heap.push { cls := .type "tuple_iterator", data := .fields #[.ref l, .int 0 0] }).push { cls := .type "enumerate", data := .fields #[.none, .bool false, .ref s.heap.objs.size, rawInt 0, .none, .none] } }) :=
  .of_wp fun prog w A R s h => by
    obtain ⟨hp, g, d, tk, os⟩ := s
    obtain ⟨isT, h⟩ := h
    have sub := sub_enumerate
    have q1 : ∀ {A' : Around} {E : Value → Shared → Prop} {Q : Value → Shared → Prop}, Q (.ref hp.objs.size) ⟨hp.push { cls := .type "tuple_iterator", data := .fields #[.ref l, .int 0 0] }, g, d, tk, os⟩ → wpAny (model prog w) A' (pyIter (.ref l)) Q E ⟨hp, g, d, tk, os⟩ :=
      fun q => (begins_tuple l items).iter prog w _ _ ⟨hp, g, d, tk, os⟩ _ isT q
    wp_walk using q1
    refine wpAny_stack_any fun st => wpAny_pure ?_
    split
    · rename_i c _ _ _ _ _
      cases (c == Value.type "enumerate")
      · wp_walk using q1
        exact ⟨_, rfl, h⟩
      · wp_walk using q1
        exact ⟨_, rfl, h⟩
    · wp_walk using q1
      exact ⟨_, rfl, h⟩
section
variable {prog : Program} {w : World} {A : Around} {E : Value → Shared → Prop} {s : Shared}
theorem call_enumT {l : Addr} {items : Array Value} {Q : Value → Shared → Prop} (isT : s.heap.IsTuple l items)
    (h : ∀ h', IsEnum h' (s.heap.objs.size + 1) s.heap.objs.size 0 .none → h'.IsTupleIter s.heap.objs.size l 0 → h'.objs.size = s.heap.objs.size + 2 →
      (∀ b o, s.heap.get? b = some o → h'.get? b = some o) → Q (.ref (s.heap.objs.size + 1)) { s with heap := h' }) :
    wpAny (model prog w) A (call (.type "enumerate") [.ref l]) Q E s := by
  refine callType_new F.called_enumerate (by decide) (F.typeCall_enumerate_1 _) (F.newCall_enumerate_1 _) (fun obj => F.args_object_init_2 obj _) F.entry_enumerate_new
    (enum_newT l items) ⟨isT, ?_⟩
  have sz : (s.heap.push { cls := .type "tuple_iterator", data := .fields #[.ref l, .int 0 0] }).objs.size = s.heap.objs.size + 1 := Heap.size_push ..
  show _ ∧ _
  rw [sz]
  have en : IsEnum ((s.heap.push { cls := .type "tuple_iterator", data := .fields #[.ref l, .int 0 0] }).push
      { cls := .type "enumerate", data := .fields #[.none, .bool false, .ref s.heap.objs.size, rawInt 0, .none, .none] }) (s.heap.objs.size + 1) s.heap.objs.size 0 .none := by
    have z := Heap.get?_push_size (s.heap.push { cls := .type "tuple_iterator", data := .fields #[.ref l, .int 0 0] })
      (o := { cls := .type "enumerate", data := .fields #[.none, .bool false, .ref s.heap.objs.size, rawInt 0, .none, .none] }) rfl
    rw [sz] at z
    exact z
  refine ⟨⟨_, en, rfl⟩, h _ en ⟨_, Heap.get?_push_of_some _ (Heap.get?_push_size _ rfl), rfl, rfl⟩ (by rw [Heap.size_push, sz]) fun b o z => Heap.get?_push_of_some _ (Heap.get?_push_of_some _ z)⟩
end
theorem enum_endT {prog : Program} {w : World} {A : Around} {E : Value → Shared → Prop} {s : Shared} {e it l : Addr} {i : Nat} {items : Array Value} {old : Value} {Q : Option Value → Shared → Prop} (hh : A.handled = none)
    (en : IsEnum s.heap e it i old) (ti : s.heap.IsTupleIter it l i) (isT : s.heap.IsTuple l items) (hx : items[i]? = none)
    (hQ : ∀ h', Heap.ExtBut it s.heap h' → Q none { s with heap := h' }) : wpAny (model prog w) A (pyNext (.ref e)) Q E s := by
  have typ : s.TypeIs (.ref e) "enumerate" := ⟨_, en, rfl⟩
  unfold pyNext
  refine wpAny_bind (wpAny_attempt (wpAny_callSpecial?_slot (name := Str.ofString "__next__") typ F.slot_enumerate_next
    (wpAny_call_entry F.slot_enumerate_next typ F.entry_enumerate_next ?_ (F.args_enumerate_next_1 _))))
  show wpAny _ _ (field (.ref e) 2 >>= _) _ _ _
  refine wpAny_bind (wpAny_field en rfl (x := .ref it) rfl ?_)
  refine wpAny_bind (wpAny_nextOf_tuple_end hh ti isT hx fun h' x ext isStop => ?_)
  obtain ⟨o, ho, hc⟩ := isStop
  refine wpAny_bind (wpAny_isInstance (T := "StopIteration") (b := true) ⟨o, ho, hc⟩ isSubtype_stop ?_)
  exact wpAny_pure (hQ _ ext)
/-- the tuple at a, each item in a new pair -/
def IteT (K : PySem.W.Frag) (a : Addr) : It :=
  ⟨fun i H => ∃ (xs : List V) (x : V), SqT K H a xs ∧ xs[i]? = some x,
   fun i H v H' => ∃ p x, v = .ref p ∧ H p = none ∧ H' = upd H p (.tup [.int (i : Nat), x]) ∧ ∀ xs, SqT K H a xs → xs[i]? = some x,
   fun i H => ∃ xs : List V, SqT K H a xs ∧ xs.length ≤ i⟩
theorem turn_enumT {P : Program} {w : World} {K : PySem.W.Frag} {elts : List Expr} {kk : Nat} {tpos : Pos} (a e it : Addr) (ait : a ≠ it) (ae : a ≠ e) :
    Turn P w K (.Tuple elts kk tpos) (IteT K a) [e, it] e (fun i h => (∃ old, IsEnum h e it ((i : Nat) : Int) old) ∧ h.IsTupleIter it a i ∧ e ≠ it) where
  mem := List.mem_cons_self
  obj := fun i h st b hb => by
    obtain ⟨⟨old, en⟩, ⟨o, ho, _, od⟩, _⟩ := st
    rcases List.mem_cons.mp hb with z | z
    · rw [z]
      exact ⟨_, en, fun v q => nomatch q⟩
    · rw [List.mem_singleton.mp z]
      exact ⟨o, ho, fun v q => by rw [od] at q; cases q⟩
  keep := fun i h h' st k => by
    obtain ⟨⟨old, en⟩, ti, ne⟩ := st
    exact ⟨⟨old, k e (by simp) _ en⟩, ti.at fun o q => k it (by simp) o q, ne⟩
  item := by
    intro X eP ew eK calm i pins s σ H E I fp st go
    subst eP ew eK
    obtain ⟨⟨old, en⟩, ti, ne⟩ := st
    obtain ⟨xs, x, sq, hx⟩ := go
    obtain ⟨its, rv, isT, _⟩ := I.tuple sq
    obtain ⟨u, hu, ru⟩ := rv.get hx
    have lt : i < its.toArray.size := by
      rw [List.size_toArray]
      exact (List.getElem?_eq_some_iff.mp hu).1
    have el : e < s.heap.objs.size := Heap.lt_size en
    have il : it < s.heap.objs.size := by obtain ⟨_, q, _⟩ := ti; exact Heap.lt_size q
    refine wpAny_pyNext_enum_itemC (c := (i : Int)) (Draws.tuple (A := X.A.in1) (show X.A.in1.handled = none from I.ok.hd calm) it a ait its.toArray) en ⟨ti, isT⟩ lt ne (by
      simp only [List.mem_cons, List.not_mem_nil, or_false, not_or]
      exact ⟨ne, Ne.symm ae⟩) fun y h' tk py out st' tup sz kp => ?_
    obtain rfl : y = u := by
      have z : its.toArray[i]? = some y := py
      have z2 : its[i]? = some y := by simpa using z
      rw [hu] at z2
      exact (Option.some.inj z2).symm
    refine ⟨_, rfl, wpAny_letOwnedTupleGo_enum (s := { s with heap := h', toks := tk + 1 }) out fun h'' en' sb => ?_⟩
    have tup2 : h''.get? s.heap.objs.size = some { cls := .type "tuple", data := .seq #[.int i tk, y] } := (sb.2 _ (Nat.ne_of_gt el)).trans tup
    have new : ObjOk X.prog X.w (upd H s.heap.objs.size (.tup [.int (i : Nat), x])) h'' s.heap.objs.size (.tup [.int (i : Nat), x]) :=
      ⟨by show 2 ≤ sizeLine; decide, [.int i tk, y], .cons ⟨_, rfl⟩ (.cons ru .nil), ⟨_, tup2, rfl, _, rfl⟩⟩
    have I1 : Inv X pins σ (upd H s.heap.objs.size (.tup [.int (i : Nat), x])) { s with heap := h'', toks := tk + 1 } :=
      I.turnedNew (ch := [e, it]) (fun b ob hb q => by
        have n1 : b ≠ e := fun z => hb (by simp [z])
        have n2 : b ≠ it := fun z => hb (by simp [z])
        exact (sb.2 b n1).trans (kp b ob n1 n2 q)) fp (Nat.le_refl _) new
    refine ⟨.ref s.heap.objs.size, _, I1, rfl, ⟨_, x, rfl, I.hok.fresh (Nat.le_refl _), rfl, fun ys hy => by rw [I.tuple_inj hy sq]; exact hx⟩, ⟨⟨y, ?_⟩, st'.1.at fun o q => (sb.2 it (Ne.symm ne)).trans q, ne⟩, fun b hb => ?_⟩
    · have e1 : ((i + 1 : Nat) : Int) = (i : Int) + 1 := by omega
      rw [e1]
      exact en'
    · have bl : b < s.heap.objs.size := by
        rcases List.mem_cons.mp hb with z | z
        · rw [z]; exact el
        · rw [List.mem_singleton.mp z]; exact il
      rw [upd_ne (Nat.ne_of_lt bl)]
      exact (fp b hb).1
  done := by
    intro X eP ew eK calm i pins s σ H E I fp st stop
    subst eP ew eK
    obtain ⟨⟨old, en⟩, ti, ne⟩ := st
    obtain ⟨xs, sq, hx⟩ := stop
    obtain ⟨its, rv, isT, _⟩ := I.tuple sq
    obtain ⟨f0, f1, f2, f3, f4, f5⟩ := fp it (by simp)
    have hl := rv.length
    refine enum_endT (I.ok.hd calm) en ti isT (by simp; omega) fun h' eb => ⟨rfl, ?_⟩
    exact I.turned (t' := s.toks) (fun b o hb q => eb b o hb q) f0 f1 f3 f4 f5
  self := fun A i s Q E st h => by
    obtain ⟨⟨_, en⟩, _⟩ := st
    exact wpAny_pyIter_enum en h

def iEnumT (K : PySem.W.Frag) (ta : TA) : TI := fun σ H R => ta σ H fun vs H1 => ∃ a xs, vs = [.ref a] ∧ SqT K H1 a xs ∧ R (IteT K a) H1
theorem pi_enumT {X : Cx} {e : Expr} {ta : TA} {p pos tpos : Pos} {elts : List Expr} {kk : Nat} (hg : Gl X "enumerate") (hm : X.mg "enumerate" = none) (ha : PA X [e] ta) (hs : starEach [e] X.env = [(false, eval e X.env)] := by rfl) :
    PI X (.Tuple elts kk tpos) (.Call (.Name "enumerate" p) [e] [] pos) (iEnumT X.K ta) := by
  refine ⟨fun pins s σ H R I h => ?_⟩
  refine Call_ (ld_blt I hg hm boot_enumerate (PyProof.Rows.callWith_type1 (thn (ha.run pos pins s σ H _ I h) fun us s1 ⟨vs, H1, I1, r1, q1⟩ => ?_) hs rfl))
  obtain ⟨a, xs, rfl, sq, q⟩ := q1
  rw [Vals.ref1 r1]
  obtain ⟨its, rv, isT, _⟩ := I1.tuple sq
  refine call_enumT isT fun h' en ti sz kp => wpAny_pyIter_enum en ?_
  have I2 : Inv X pins σ H1 { s1 with heap := h' } := I1.kept (t' := s1.toks) kp
  have al : a < s1.heap.objs.size := by obtain ⟨_, z, _⟩ := isT; exact Heap.lt_size z
  refine ⟨s1.heap.objs.size + 1, [s1.heap.objs.size + 1, s1.heap.objs.size], _, _, H1, rfl, I2, turn_enumT a (s1.heap.objs.size + 1) s1.heap.objs.size (Nat.ne_of_lt al) (Nat.ne_of_lt (Nat.lt_succ_of_lt al)), ⟨⟨.none, en⟩, ti, Nat.succ_ne_self _⟩, fun b hb => ?_, q⟩
  have le : s1.heap.objs.size ≤ b := by
    rcases List.mem_cons.mp hb with z | z
    · rw [z]; exact Nat.le_succ _
    · rw [List.mem_singleton.mp z]; exact Nat.le_refl _
  exact I1.fpOk le (I1.hok.fresh le)
end SR

/-! A small language of values: what the texts' expressions and statements come to, without a heap. -/
namespace SR

/-- a key of a dict: a number, a text, a row of numbers from 0 -/
inductive Ky where
  | int (i : Int) | str (x : List Nat) | tp (p : List Nat)
  deriving DecidableEq

/-- values: lists and dicts as what they hold; obj: an object of the store -/
inductive PV where
  | non | bl (b : Bool) | int (i : Int) | str (x : List Nat)
  | tup (xs : List PV) | lst (xs : List PV) | dct (kvs : List (Ky × PV)) | obj (l : Nat)

def pathOf : List PV → Option (List Nat)
  | [] => some []
  | .int i :: r => if 0 ≤ i then (pathOf r).map (i.toNat :: ·) else none
  | _ => none
def keyOf : PV → Option Ky
  | .int i => some (.int i)
  | .str x => some (.str x)
  | .tup xs => (pathOf xs).map .tp
  | _ => none
def keyV : Ky → PV
  | .int i => .int i
  | .str x => .str x
  | .tp p => .tup (p.map fun (n : Nat) => .int n)

mutual
def eqv : PV → PV → Bool
  | .non, .non => true
  | .bl a, .bl b => a == b
  | .bl a, .int j => (if a then 1 else 0) == j
  | .int i, .bl b => i == (if b then 1 else 0)
  | .int i, .int j => i == j
  | .str x, .str y => x == y
  | .lst xs, .lst ys => eqvs xs ys
  | .tup xs, .tup ys => eqvs xs ys
  | _, _ => false
def eqvs : List PV → List PV → Bool
  | [], [] => true
  | x :: xs, y :: ys => eqv x y && eqvs xs ys
  | _, _ => false
end
mutual
def data : PV → Bool
  | .lst xs => datas xs
  | .tup xs => datas xs
  | .dct _ => false
  | .obj _ => false
  | _ => true
def datas : List PV → Bool
  | [] => true
  | x :: xs => data x && datas xs
end

/-- a slot: nothing, a value that may stand elsewhere too, a list or dict of its own -/
inductive Sl where
  | un | sh (v : PV) | own (v : PV)
/-- the store: instances, changing things that stand at many places, those that change no more -/
inductive PO where
  | ins (c : Nat) (fs : List (Nat × Sl)) | box (v : PV) | fz (v : PV)
abbrev Env := List Sl
abbrev Sto := List PO
/-- how a value is held: as any other; a new list or dict; one of a slot's; one of an object's -/
inductive Md where
  | sh | own | bor | brf

/-- what an expression comes to; what arguments come to; what is walked; a block -/
inductive Res where
  | ok (v : PV) (m : Md) (S : Sto) | exc (c : Nat) (S : Sto) | bad
inductive Ress where
  | ok (vs : List Sl) (S : Sto) | exc (c : Nat) (S : Sto) | bad
inductive TRes where
  | ok (b : Bool) (S : Sto) | exc (c : Nat) (S : Sto) | bad
inductive IRes where
  | ok (xs : List PV) (S : Sto) | exc (c : Nat) (S : Sto) | bad
inductive SRes where
  | nx (r : Env) (S : Sto) | ret (v : PV) (m : Md) (S : Sto) | brk (r : Env) (S : Sto) | cnt (r : Env) (S : Sto) | exc (c : Nat) (r : Env) (S : Sto) | bad

def Res.bind (r : Res) (k : PV → Md → Sto → Res) : Res := match r with | .ok v m S => k v m S | .exc c S => .exc c S | .bad => .bad
/-- ahead of parts that leave the store alone (s), or of any -/
def Md.ok : Md → Bool → Bool
  | .brf, s => s
  | _, _ => true
@[simp] theorem Md.ok_sh {s} : Md.ok .sh s = true := rfl
@[simp] theorem Md.ok_own {s} : Md.ok .own s = true := rfl
@[simp] theorem Md.ok_bor {s} : Md.ok .bor s = true := rfl
@[simp] theorem Md.ok_brf {s} : Md.ok .brf s = s := rfl
def Md.isSh : Md → Bool
  | .sh => true
  | _ => false
@[simp] theorem Md.isSh_sh : Md.isSh .sh = true := rfl
/-- a result that stands by itself -/
def Md.fin : Md → Bool
  | .sh => true
  | .own => true
  | _ => false
def Res.bindK (r : Res) (s : Bool) (k : PV → Md → Sto → Res) : Res := match r with | .ok v m S => if m.ok s then k v m S else .bad | .exc c S => .exc c S | .bad => .bad
@[simp] theorem Res.bindK_ok {v m S s k} : (Res.ok v m S).bindK s k = if m.ok s then k v m S else .bad := rfl
@[simp] theorem Res.bindK_exc {c S s k} : (Res.exc c S).bindK s k = .exc c S := rfl
def Res.bindT (r : Res) (k : PV → Md → Sto → TRes) : TRes := match r with | .ok v m S => k v m S | .exc c S => .exc c S | .bad => .bad
def Res.bindI (r : Res) (k : PV → Md → Sto → IRes) : IRes := match r with | .ok v m S => k v m S | .exc c S => .exc c S | .bad => .bad
def Res.bindA (r : Res) (k : PV → Md → Sto → Ress) : Ress := match r with | .ok v m S => k v m S | .exc c S => .exc c S | .bad => .bad
def Res.bindS (r : Res) (e : Env) (k : PV → Md → Sto → SRes) : SRes := match r with | .ok v m S => k v m S | .exc c S => .exc c e S | .bad => .bad
def Ress.bind (r : Ress) (k : List Sl → Sto → Res) : Res := match r with | .ok vs S => k vs S | .exc c S => .exc c S | .bad => .bad
def Ress.bindA (r : Ress) (k : List Sl → Sto → Ress) : Ress := match r with | .ok vs S => k vs S | .exc c S => .exc c S | .bad => .bad
def TRes.bind (r : TRes) (k : Bool → Sto → Res) : Res := match r with | .ok b S => k b S | .exc c S => .exc c S | .bad => .bad
def TRes.bindT (r : TRes) (k : Bool → Sto → TRes) : TRes := match r with | .ok b S => k b S | .exc c S => .exc c S | .bad => .bad
def TRes.bindS (r : TRes) (e : Env) (k : Bool → Sto → SRes) : SRes := match r with | .ok b S => k b S | .exc c S => .exc c e S | .bad => .bad
def IRes.bind (r : IRes) (k : List PV → Sto → Res) : Res := match r with | .ok b S => k b S | .exc c S => .exc c S | .bad => .bad
def IRes.bindS (r : IRes) (e : Env) (k : List PV → Sto → SRes) : SRes := match r with | .ok b S => k b S | .exc c S => .exc c e S | .bad => .bad

@[simp] theorem Res.bind_ok {v m S k} : (Res.ok v m S).bind k = k v m S := rfl
@[simp] theorem Res.bindT_ok {v m S k} : (Res.ok v m S).bindT k = k v m S := rfl
@[simp] theorem Res.bindI_ok {v m S k} : (Res.ok v m S).bindI k = k v m S := rfl
@[simp] theorem Res.bindA_ok {v m S k} : (Res.ok v m S).bindA k = k v m S := rfl
@[simp] theorem Res.bindS_ok {v m S e k} : (Res.ok v m S).bindS e k = k v m S := rfl
@[simp] theorem Res.bind_exc {c S k} : (Res.exc c S).bind k = .exc c S := rfl
@[simp] theorem Res.bindS_exc {c S e k} : (Res.exc c S).bindS e k = .exc c e S := rfl
@[simp] theorem Ress.bind_ok {vs S k} : (Ress.ok vs S).bind k = k vs S := rfl
@[simp] theorem Ress.bindA_ok {vs S k} : (Ress.ok vs S).bindA k = k vs S := rfl
@[simp] theorem TRes.bind_ok {b S k} : (TRes.ok b S).bind k = k b S := rfl
@[simp] theorem TRes.bindT_ok {b S k} : (TRes.ok b S).bindT k = k b S := rfl
@[simp] theorem TRes.bindS_ok {b S e k} : (TRes.ok b S).bindS e k = k b S := rfl
@[simp] theorem IRes.bind_ok {b S k} : (IRes.ok b S).bind k = k b S := rfl
@[simp] theorem IRes.bindS_ok {b S e k} : (IRes.ok b S).bindS e k = k b S := rfl

/-- a thing of the store, as it stands -/
def view (S : Sto) : PV → PV
  | .obj l => match S[l]? with
    | some (.box v) => v
    | some (.fz v) => v
    | _ => .obj l
  | v => v
@[simp] theorem view_non {S} : view S .non = .non := rfl
@[simp] theorem view_bl {S b} : view S (.bl b) = .bl b := rfl
@[simp] theorem view_int {S b} : view S (.int b) = .int b := rfl
@[simp] theorem view_str {S b} : view S (.str b) = .str b := rfl
@[simp] theorem view_tup {S b} : view S (.tup b) = .tup b := rfl
@[simp] theorem view_lst {S b} : view S (.lst b) = .lst b := rfl
@[simp] theorem view_dct {S b} : view S (.dct b) = .dct b := rfl

/-- how long a list or a text may be -/
def lim : Nat := 16000000

def truth : PV → Option Bool
  | .non => some false
  | .bl b => some b
  | .int i => some (i != 0)
  | .str x => if x.length ≤ lim then some (x.length != 0) else none
  | .lst xs => some (!xs.isEmpty)
  | .tup xs => some (!xs.isEmpty)
  | _ => none

inductive BOp where
  | add | sub | mul | fdiv | mod | pow
  deriving DecidableEq
def two64 : Int := 18446744073709551616
/-- k: both are held as any other -/
def op2 : BOp → Bool → PV → PV → Option (PV × Md)
  | .add, _, .int a, .int b => some (.int (a + b), .sh)
  | .add, _, .str a, .str b => if a.length + b.length ≤ lim then some (.str (a ++ b), .sh) else none
  | .add, true, .tup a, .tup b => if a.length + b.length ≤ lim then some (.tup (a ++ b), .sh) else none
  | .add, _, .lst a, .lst b => if a.length + b.length ≤ lim then some (.lst (a ++ b), .own) else none
  | .sub, _, .int a, .int b => some (.int (a - b), .sh)
  | .mul, _, .int a, .int b => if (-two64 < a ∧ a < two64) ∨ (-two64 < b ∧ b < two64) then some (.int (a * b), .sh) else none
  | .mul, true, .tup a, .int n => if 2 ≤ n ∧ n ≤ 1000 ∧ a.length ≤ 1000 ∧ 0 < a.length then some (.tup (List.replicate n.toNat a).flatten, .sh) else none
  | .mul, false, .lst a, .int n => if 0 ≤ n ∧ n ≤ 1000 ∧ a.length ≤ 1000 then some (.lst (List.replicate n.toNat a).flatten, .own) else none
  | .pow, _, .int a, .int b => if 0 ≤ b ∧ b ≤ 1000 ∧ a.natAbs < 18446744073709551616 then some (.int (a ^ b.toNat), .sh) else none
  | .fdiv, _, .int a, .int b => if b ≠ 0 ∧ b.natAbs < 1073741824 then some (.int (a.fdiv b), .sh) else none
  | .mod, _, .int a, .int b => if b ≠ 0 then some (.int (a.fmod b), .sh) else none
  | _, _, _, _ => none

inductive COp where
  | eq | ne | lt | le | gt | ge | isN | notN | inn | nin
def lookK (k : Ky) : List (Ky × PV) → Option PV
  | [] => none
  | (k', v) :: r => if k' = k then some v else lookK k r
def hasK (k : Ky) (kvs : List (Ky × PV)) : Bool := kvs.any fun p => decide (p.1 = k)
def putK (k : Ky) (v : PV) (kvs : List (Ky × PV)) : List (Ky × PV) :=
  if hasK k kvs then kvs.map (fun p => if p.1 = k then (p.1, v) else p) else kvs ++ [(k, v)]
/-- the same kind of key as those that are there -/
def kindOk : Ky → List (Ky × PV) → Bool
  | _, [] => true
  | .tp _, (.tp _, _) :: _ => true
  | .tp _, _ => false
  | _, (.tp _, _) :: _ => false
  | _, _ => true
/-- d.get(k), where it may be asked -/
def getK (x : PV) (kvs : List (Ky × PV)) : Option (Option PV) := match keyOf x with
  | some k => if kindOk k kvs then some (lookK k kvs) else none
  | none => none
def member (x : PV) (ys : List PV) : Bool := ys.any fun y => eqv y x
mutual
def dep : PV → Nat
  | .lst xs => deps xs + 1
  | .tup xs => deps xs + 1
  | _ => 0
def deps : List PV → Nat
  | [] => 0
  | x :: xs => max (dep x) (deps xs)
end
def shallow (x y : PV) : Bool := data x && data y && decide (min (dep x) (dep y) ≤ 60)
def isNon : PV → Bool
  | .non => true
  | _ => false
/-- km: the left one is held as any other -/
def cmp2 : COp → Bool → PV → PV → Option Bool
  | .eq, _, a, b => if shallow a b then some (eqv a b) else none
  | .ne, _, a, b => if shallow a b then some (!eqv a b) else none
  | .lt, _, .int a, .int b => some (decide (a < b))
  | .le, _, .int a, .int b => some (decide (a ≤ b))
  | .gt, _, .int a, .int b => some (decide (b < a))
  | .ge, _, .int a, .int b => some (decide (b ≤ a))
  | .isN, _, a, .non => some (isNon a)
  | .isN, _, .bl a, .bl b => some (decide (a = b))
  | .notN, _, a, .non => some (!isNon a)
  | .notN, _, .bl a, .bl b => some (!decide (a = b))
  | .inn, _, x, .tup ys => if data x && decide (dep x ≤ 60) && datas ys then some (member x ys) else none
  | .inn, _, x, .lst ys => if data x && decide (dep x ≤ 60) && datas ys then some (member x ys) else none
  | .inn, _, .str [c], .str s => some (decide (c ∈ s))
  | .inn, true, x, .dct kvs => (getK x kvs).map fun o => o.isSome
  | .nin, _, x, .tup ys => if data x && decide (dep x ≤ 60) && datas ys then some (!member x ys) else none
  | .nin, _, x, .lst ys => if data x && decide (dep x ≤ 60) && datas ys then some (!member x ys) else none
  | .nin, _, .str [c], .str s => some (!decide (c ∈ s))
  | .nin, true, x, .dct kvs => (getK x kvs).map fun o => !o.isSome
  | _, _, _, _ => none

/-- an item by its place, from the left or, below 0, from the right -/
def atI (n : Nat) (i : Int) : Option Nat := if 0 ≤ i then (if i < n then some i.toNat else none) else if -(n : Int) ≤ i then some (i + n).toNat else none
def item : PV → PV → Option PV
  | .tup xs, .int i => (atI xs.length i).bind fun k => xs[k]?
  | .lst xs, .int i => (atI xs.length i).bind fun k => xs[k]?
  | .str xs, .int i => if xs.length ≤ lim then ((atI xs.length i).bind fun k => xs[k]?).map fun c => .str [c] else none
  | .dct kvs, k => (getK k kvs).bind fun o => o
  | _, _ => none
/-- where a slice's end lies -/
def clip (n d : Nat) : Option Int → Nat
  | none => d
  | some v => if v < 0 then (v + (n : Int)).toNat else min v.toNat n
def cut {α : Type} (xs : List α) (lo hi : Option Int) : List α := (xs.drop (clip xs.length 0 lo)).take (clip xs.length xs.length hi - clip xs.length 0 lo)
def slice (lo hi : Option Int) : Bool → PV → Option (PV × Md)
  | true, .tup xs => some (.tup (cut xs lo hi), .sh)
  | _, .lst xs => some (.lst (cut xs lo hi), .own)
  | _, .str xs => if xs.length ≤ lim then some (.str (cut xs lo hi), .sh) else none
  | _, _ => none

/-- the built-in functions -/
inductive Bi where
  | len | min2 | max2 | minL | maxL | sum | int | str | tuple | list | dict | all | any | sorted | sset | nset | rng1 | rng2 | abs
inductive Ty where
  | int | bool | str | tuple | list
def isTy : Ty → PV → Bool
  | .int, .int _ => true
  | .int, .bl _ => true
  | .bool, .bl _ => true
  | .str, .str _ => true
  | .tuple, .tup _ => true
  | .list, .lst _ => true
  | _, _ => false
/-- what isinstance answers, of what we know -/
def isTyO (t : Ty) : PV → Option Bool
  | .dct _ => none
  | .obj _ => none
  | v => some (isTy t v)
def intsOf : List PV → Option (List Int)
  | [] => some []
  | .int i :: r => (intsOf r).map (i :: ·)
  | _ => none
def strsOf : List PV → Option (List (List Nat))
  | [] => some []
  | .str i :: r => (strsOf r).map (i :: ·)
  | _ => none
def boolsOf : List PV → Option (List Bool)
  | [] => some []
  | .bl i :: r => (boolsOf r).map (i :: ·)
  | _ => none
def minI : List Int → Option Int
  | [] => none
  | x :: r => match minI r with
    | none => some x
    | some m => some (if m < x then m else x)
def maxI : List Int → Option Int
  | [] => none
  | x :: r => match maxI r with
    | none => some x
    | some m => some (if x < m then m else x)
def sumI (xs : List Int) : Int := xs.sum
def range (lo : Int) (n : Nat) : List PV := (List.range n).map fun (i : Nat) => .int (lo + i)
def pairsOf : List PV → Option (List (Ky × PV))
  | [] => some []
  | .tup [k, v] :: r => match keyOf k, pairsOf r with
    | some k, some r => some ((k, v) :: r)
    | _, _ => none
  | _ => none
def dictOf (ps : List (Ky × PV)) : List (Ky × PV) := ps.foldl (fun d p => putK p.1 p.2 d) []
/-- no key is a row -/
def allK (kvs : List (Ky × PV)) : Bool := kvs.all fun p => match p.1 with
  | .tp _ => false
  | _ => true
/-- the order of parts, of lists of parts -/
def leN : List Nat → List Nat → Bool
  | [], _ => true
  | _ :: _, [] => false
  | a :: r, b :: s => decide (a < b) || (a == b && leN r s)
def leI : List Int → List Int → Bool
  | [], _ => true
  | _ :: _, [] => false
  | a :: r, b :: s => decide (a < b) || (a == b && leI r s)
def insertBy {α : Type} (le : α → α → Bool) (x : α) : List α → List α
  | [] => [x]
  | y :: r => if le x y then x :: y :: r else y :: insertBy le x r
def sortBy {α : Type} (le : α → α → Bool) : List α → List α
  | [] => []
  | x :: r => insertBy le x (sortBy le r)
def tupsOf : List PV → Option (List (List Int))
  | [] => some []
  | .tup xs :: r => match intsOf xs, tupsOf r with
    | some x, some r => some (x :: r)
    | _, _ => none
  | _ => none
/-- by what a thing is sorted: its kind, its row -/
def sKey : PV → Option (Nat × List Int)
  | .int i => some (0, [i])
  | .str x => some (1, x.map Int.ofNat)
  | .tup (.int i :: r) => (intsOf (.int i :: r)).map fun k => (2, k)
  | .tup (.tup p :: _) => (intsOf p).map fun k => (3, k)
  | .tup (.str x :: _) => some (4, x.map Int.ofNat)
  | _ => none
/-- the rows of things of one kind -/
def rowsK (kd : Nat) : List PV → Option (List (List Int))
  | [] => some []
  | x :: r => match sKey x, rowsK kd r with
    | some (k, a), some r => if k = kd then some (a :: r) else none
    | _, _ => none
def rowOf (x : PV) : List Int := ((sKey x).map fun p => p.2).getD []
def kindOf (xs : List PV) : Option (Nat × List (List Int)) := match xs with
  | [] => some (0, [])
  | x :: _ => (sKey x).bind fun p => (rowsK p.1 xs).map fun r => (p.1, r)
/-- sorted: what begins with rows or texts only if these are unlike -/
def sorted (xs : List PV) : Option (List PV) := (kindOf xs).bind fun p =>
  if p.1 < 3 ∨ p.2.Nodup then some (sortBy (fun a b => leI (rowOf a) (rowOf b)) xs) else none
def dedup {α : Type} [DecidableEq α] : List α → List α
  | [] => []
  | x :: r => if x ∈ r then dedup r else x :: dedup r
def backK (kd : Nat) (k : List Int) : PV := match kd with
  | 0 => .int (k.headD 0)
  | 1 => .str (k.map Int.toNat)
  | _ => .tup (k.map .int)
/-- sorted(set(..)) -/
def sset (xs : List PV) : Option (List PV) := (kindOf xs).bind fun p =>
  if p.1 < 3 ∧ xs.length < 64 then some ((sortBy leI (dedup p.2)).map (backK p.1)) else none
/-- no tuples among them -/
def rowsFree (xs : List PV) : Bool := xs.all fun x => match x with
  | .tup _ => false
  | _ => true
def digits : Nat → Nat → List Nat → List Nat
  | 0, _, acc => acc
  | f + 1, n, acc => if n < 10 then (48 + n) :: acc else digits f (n / 10) ((48 + n % 10) :: acc)
def natText (n : Nat) : List Nat := digits (n + 1) n []
def intText (i : Int) : List Nat := if i < 0 then 45 :: natText i.natAbs else natText i.natAbs
def dom (kvs : List (Ky × PV)) : List PV := kvs.map fun p => keyV p.1
def bi : Bi → List PV → Option (PV × Md)
  | .len, [.lst xs] => some (.int xs.length, .sh)
  | .len, [.tup xs] => some (.int xs.length, .sh)
  | .len, [.dct xs] => some (.int xs.length, .sh)
  | .len, [.str xs] => if xs.length ≤ lim then some (.int xs.length, .sh) else none
  | .min2, [.int a, .int b] => some (.int (if b < a then b else a), .sh)
  | .max2, [.int a, .int b] => some (.int (if b > a then b else a), .sh)
  | .minL, [.lst xs] => ((intsOf xs).bind minI).map fun i => (.int i, .sh)
  | .maxL, [.lst xs] => ((intsOf xs).bind maxI).map fun i => (.int i, .sh)
  | .sum, [.lst xs] => (intsOf xs).map fun i => (.int (sumI i), .sh)
  | .int, [.int i] => some (.int i, .sh)
  | .int, [.bl b] => some (.int (if b then 1 else 0), .sh)
  | .str, [.int i] => if i.natAbs < 2 ^ 64 then some (.str (intText i), .sh) else none
  | .tuple, [.lst xs] => some (.tup xs, .sh)
  | .list, [.lst xs] => some (.lst xs, .own)
  | .list, [.tup xs] => some (.lst xs, .own)
  | .list, [.dct kvs] => some (.lst (dom kvs), .own)
  | .dict, [.lst ps] => (pairsOf ps).bind fun kvs => if allK kvs then some (.dct (dictOf kvs), .own) else none
  | .dict, [.dct kvs] => if allK kvs then some (.dct kvs, .own) else none
  | .all, [.lst xs] => (boolsOf xs).map fun bs => (.bl (bs.all id), .sh)
  | .any, [.lst xs] => (boolsOf xs).map fun bs => (.bl (bs.any id), .sh)
  | .sorted, [.lst xs] => (sorted xs).map fun r => (.lst r, .own)
  | .sset, [.lst xs] => (sset xs).map fun r => (.lst r, .own)
  | .sset, [.tup xs] => if rowsFree xs then (sset xs).map fun r => (.lst r, .own) else none
  | .rng1, [.int j] => if -4611686018427387904 ≤ j ∧ j < 1000000 then some (.lst (range 0 j.toNat), .own) else none
  | .rng2, [.int i, .int j] => if -4611686018427387904 ≤ i ∧ j < 4611686018427387904 ∧ i < 4611686018427387904 ∧ -4611686018427387904 ≤ j ∧ j - i < 1000000 then some (.lst (range i (j - i).toNat), .own) else none
  | .abs, [.int i] => some (.int (if i < 0 then -i else i), .sh)
  | _, _ => none

/-- a target: a name's slot, or two or three in a row -/
inductive Tg where
  | nm (i : Nat) | tp2 (a b : Tg) | tp3 (a b c : Tg)
def setS (r : Env) (i : Nat) (x : Sl) : Option Env := if i < r.length then some (r.set i x) else none
def bindG (S : Sto) : Tg → PV → Env → Option Env
  | .nm i, v, r => setS r i (.sh v)
  | .tp2 a b, v, r => match view S v with
    | .tup [x, y] => (bindG S a x r).bind (bindG S b y)
    | _ => none
  | .tp3 a b c, v, r => match view S v with
    | .tup [x, y, z] => (bindG S a x r).bind fun r => (bindG S b y r).bind (bindG S c z)
    | _ => none

mutual
inductive CE where
  | lit (v : PV) | var (i : Nat) | glob (g : Nat)
  | bin (op : BOp) (a b : CE) | neg (a : CE) | cmp (op : COp) (a b : CE) | chn (o1 o2 : COp) (a b c : CE) | chn3 (o1 o2 o3 : COp) (a b c d : CE)
  | and (a b : CE) | or (a b : CE) | not (a : CE) | ite (c : CT) (a b : CE)
  | tup (es : CEs) | lst (es : CEs) | dnw | dsp (ks : List Ky) (es : CEs)
  | sub (a i : CE) | slcL (a lo : CE) | slcU (a hi : CE) | slcB (a lo hi : CE) | rev (a : CE)
  | call (f : Nat) (es : CEs) | meth (m : Nat) (o : CE) (es : CEs) | make (c : Nat) (es : CEs)
  | bi (b : Bi) (es : CEs) | isi (t : Ty) (a : CE)
  | get1 (d k : CE) | get2 (d k x : CE) | items (d : CE) | join (s x : CE) | split (s x : CE) | count (x y : CE) | index (x y : CE)
  | fld (f : Nat) (o : CE) | mvf (f : Nat) (o : CE) | shf (f : Nat) (o : CE) | bi1 (b : Bi) (e : CE)
  | lc (elt : CE) (tg : Tg) (it : CI) | lcf (elt : CE) (tg : Tg) (it : CI) (c : CT)
  | box (e : CE) | frz (e : CE) | pop0 (e : CE) | gsub (t : Nat) (k : CE)
inductive CEs where
  | nil | cons (e : CE) (r : CEs)
inductive CT where
  | e (a : CE) | cm (op : COp) (a b : CE) | and (a b : CT) | or (a b : CT) | not (a : CT) | ite (c a b : CT) | chn (o1 o2 : COp) (a b c : CE) | chn3 (o1 o2 o3 : COp) (a b c d : CE)
inductive CI where
  | seq (e : CE) | rng1 (e : CE) | rng2 (a b : CE) | enum (e : CE) | zip (a b : CE)
end

def CEs.len : CEs → Nat
  | .nil => 0
  | .cons _ r => r.len + 1
/-- parts that leave the store as it is -/
def simpE : CE → Bool
  | .lit _ => true
  | .var _ => true
  | .glob _ => true
  | .bin _ a b => simpE a && simpE b
  | .neg a => simpE a
  | .cmp _ a b => simpE a && simpE b
  | .sub a i => simpE a && simpE i
  | .fld _ o => simpE o
  | .isi _ o => simpE o
  | _ => false
/-- parts in a row, each of which leaves the store as it is -/
def simpA : CEs → Bool
  | .nil => true
  | .cons e r => simpE e && simpA r
/-- such a part, or a tuple of such -/
def simpT : CE → Bool
  | .tup es => simpA es
  | e => simpE e

structure Prg where
  /-- the top's constants; true: it may stand anywhere -/
  consts : List (PV × Bool)
  /-- by class and name; a class's own def of what is new -/
  meth : Nat → Nat → Option Nat
  init : Nat → Option Nat
  /-- the top's dicts with numbers as keys -/
  tabs : List (List (Int × PV))
/-- what a def's call comes to -/
abbrev Phi := Nat → List Sl → Sto → Res

def md (v : PV) : Md → Option Sl
  | .sh => some (.sh v)
  | .own => some (.own v)
  | .bor => none
  | .brf => none
def ofO (S : Sto) : Option (PV × Md) → Res
  | some (v, .sh) => .ok v .sh S
  | some (v, .own) => .ok v .own S
  | _ => .bad
def ofV (S : Sto) : Option PV → Res
  | some v => .ok v .sh S
  | none => .bad
def ofB (S : Sto) : Option Bool → Res
  | some b => .ok (.bl b) .sh S
  | none => .bad
@[simp] theorem ofO_sh {S v} : ofO S (some (v, .sh)) = .ok v .sh S := rfl
@[simp] theorem ofO_own {S v} : ofO S (some (v, .own)) = .ok v .own S := rfl
@[simp] theorem ofV_some {S v} : ofV S (some v) = .ok v .sh S := rfl
@[simp] theorem ofB_some {S v} : ofB S (some v) = .ok (.bl v) .sh S := rfl
def shOf : Sl → PV
  | .un => .non
  | .sh v => v
  | .own v => v
/-- which things may be walked: the items of a list, a tuple, the keys of a dict, the signs of a text -/
def walk : PV → Option (List PV)
  | .lst xs => some xs
  | .tup xs => some xs
  | .dct kvs => some (dom kvs)
  | .str x => some (x.map fun c => .str [c])
  | _ => none
/-- a dict that is walked stands anywhere -/
def walkD (m : Md) : PV → Bool
  | .dct _ => m.isSh
  | _ => true
@[simp] theorem walkD_lst {m xs} : walkD m (.lst xs) = true := rfl
@[simp] theorem walkD_tup {m xs} : walkD m (.tup xs) = true := rfl
@[simp] theorem walkD_str {m xs} : walkD m (.str xs) = true := rfl
@[simp] theorem walkD_dct {xs} : walkD .sh (.dct xs) = true := rfl
def isSeq : PV → Bool
  | .lst _ => true
  | .tup _ => true
  | _ => false
/-- may be walked: b: one of a slot's too -/
def Md.walk : Bool → Md → Bool
  | _, .sh => true
  | _, .own => true
  | b, .bor => b
  | _, .brf => false
@[simp] theorem Md.walk_sh {b} : Md.walk b .sh = true := rfl
@[simp] theorem Md.walk_own {b} : Md.walk b .own = true := rfl
@[simp] theorem Md.walk_bor {b} : Md.walk b .bor = b := rfl
/-- two lists, two tuples -/
def sameSq : PV → PV → Bool
  | .lst _, .lst _ => true
  | .tup _, .tup _ => true
  | _, _ => false
def enumF : Nat → List PV → List PV
  | _, [] => []
  | n, x :: r => .tup [.int n, x] :: enumF (n + 1) r
def zipF : List PV → List PV → List PV
  | x :: r, y :: s => .tup [x, y] :: zipF r s
  | _, _ => []
/-- a comprehension's items -/
inductive LRes where
  | one (v : PV) (S : Sto) | skip (S : Sto) | bad
def lcI (f : PV → Sto → LRes) : List PV → List PV → Sto → Res
  | [], acc, S => .ok (.lst acc) .own S
  | x :: r, acc, S => match f x S with
    | .one v S1 => lcI f r (acc ++ [v]) S1
    | .skip S1 => lcI f r acc S1
    | .bad => .bad
def lkF (f : Nat) : List (Nat × Sl) → Option Sl
  | [] => none
  | (g, v) :: r => if f = g then some v else lkF f r
def ptF (f : Nat) (v : Sl) : List (Nat × Sl) → List (Nat × Sl)
  | [] => [(f, v)]
  | (g, w) :: r => if f = g then (g, v) :: r else (g, w) :: ptF f v r
def getF (S : Sto) (o : PV) (f : Nat) : Option Sl := match o with
  | .obj l => match S[l]? with
    | some (.ins _ fs) => lkF f fs
    | _ => none
  | _ => none
def putS (S : Sto) (o : PV) (f : Nat) (v : Sl) : Option Sto := match o with
  | .obj l => match S[l]? with
    | some (.ins c fs) => if fs.length < 100 then some (S.set l (.ins c (ptF f v fs))) else none
    | _ => none
  | _ => none
def share : Sl → Sl
  | .own v => .sh v
  | x => x

def isDct : PV → Bool
  | .dct _ => true
  | _ => false
def isLst : PV → Bool
  | .lst _ => true
  | _ => false
/-- how often a list has a thing; its first place -/
def countV : PV → PV → Option PV
  | .lst xs, y => if datas xs && data y && decide (min (deps xs) (dep y) ≤ 60) then some (.int ((xs.countP fun z => eqv z y : Nat) : Int)) else none
  | _, _ => none
def indexV : PV → PV → Option PV
  | .lst xs, y => if datas xs && data y && decide (min (deps xs) (dep y) ≤ 60) then (xs.findIdx? fun z => eqv z y).map fun (j : Nat) => .int (j : Int) else none
  | _, _ => none
/-- which def answers to a name, of an instance -/
def methOf (G : Prg) (S : Sto) (x : PV) (m : Nat) : Option Nat := match x with
  | .obj l => match S[l]? with
    | some (.ins c _) => G.meth c m
    | _ => none
  | _ => none
/-- a truth as a test's answer -/
def toT : Res → TRes
  | .ok (.bl k) _ S => .ok k S
  | .exc c S => .exc c S
  | _ => .bad
@[simp] theorem toT_bl {k m S} : toT (.ok (.bl k) m S) = .ok k S := rfl
@[simp] theorem toT_exc {c S} : toT (.exc c S) = .exc c S := rfl
mutual
def evE (G : Prg) (Φ : Phi) : CE → Env → Sto → Res
  | .lit v, _, S => .ok v .sh S
  | .var i, r, S => match r[i]? with
    | some (.sh v) => .ok v .sh S
    | some (.own v) => .ok v .bor S
    | _ => .bad
  | .glob g, _, S => match G.consts[g]? with
    | some (v, true) => .ok v .sh S
    | some (v, false) => .ok v .bor S
    | none => .bad
  | .bin op a b, r, S => (evE G Φ a r S).bindK (simpE b) fun x m S1 => (evE G Φ b r S1).bind fun y n S2 => ofO S2 (op2 op (m.isSh && n.isSh) (view S2 x) (view S2 y))
  | .neg a, r, S => (evE G Φ a r S).bind fun x _ S1 => match x with
    | .int i => .ok (.int (-i)) .sh S1
    | _ => .bad
  | .cmp op a b, r, S => (evE G Φ a r S).bindK (simpE b) fun x m S1 => (evE G Φ b r S1).bind fun y _ S2 => ofB S2 (cmp2 op m.isSh (view S2 x) (view S2 y))
  | .chn o1 o2 a b c, r, S => (evE G Φ a r S).bind fun x m S1 => (evE G Φ b r S1).bind fun y n S2 => if m.isSh && n.isSh then match cmp2 o1 true (view S2 x) (view S2 y) with
    | some true => (evE G Φ c r S2).bind fun z _ S3 => ofB S3 (cmp2 o2 true (view S3 y) (view S3 z))
    | some false => .ok (.bl false) .sh S2
    | none => .bad
    else .bad
  | .chn3 o1 o2 o3 a b c d, r, S => (evE G Φ a r S).bind fun x m S1 => (evE G Φ b r S1).bind fun y n S2 => if m.isSh && n.isSh then match cmp2 o1 true (view S2 x) (view S2 y) with
    | some true => (evE G Φ c r S2).bind fun z p S3 => if p.isSh then match cmp2 o2 true (view S3 y) (view S3 z) with
      | some true => (evE G Φ d r S3).bind fun u _ S4 => ofB S4 (cmp2 o3 true (view S4 z) (view S4 u))
      | some false => .ok (.bl false) .sh S3
      | none => .bad
      else .bad
    | some false => .ok (.bl false) .sh S2
    | none => .bad
    else .bad
  | .and a b, r, S => (evE G Φ a r S).bind fun x _ S1 => match x with
    | .bl true => evE G Φ b r S1
    | .bl false => .ok (.bl false) .sh S1
    | _ => .bad
  | .or a b, r, S => (evE G Φ a r S).bind fun x _ S1 => match x with
    | .bl false => evE G Φ b r S1
    | .bl true => .ok (.bl true) .sh S1
    | _ => .bad
  | .not a, r, S => (evE G Φ a r S).bind fun x _ S1 => match x with
    | .bl b => .ok (.bl !b) .sh S1
    | _ => .bad
  | .ite c a b, r, S => (evT G Φ c r S).bind fun k S1 => if k then evE G Φ a r S1 else evE G Φ b r S1
  | .tup es, r, S => (evA G Φ es r S).bind fun vs S1 => .ok (.tup (vs.map shOf)) .sh S1
  | .lst es, r, S => (evA G Φ es r S).bind fun vs S1 => .ok (.lst (vs.map shOf)) .own S1
  | .dnw, _, S => .ok (.dct []) .own S
  | .dsp ks es, r, S => (evA G Φ es r S).bind fun vs S1 => .ok (.dct (dictOf (ks.zip (vs.map shOf)))) .own S1
  | .sub a i, r, S => (evE G Φ a r S).bindK (simpE i) fun x _ S1 => (evE G Φ i r S1).bind fun y n S2 => if n.isSh then ofV S2 (item (view S2 x) y) else .bad
  | .slcL a lo, r, S => (evE G Φ a r S).bindK (simpE lo) fun x m S1 => (evE G Φ lo r S1).bind fun y _ S2 => match y with
    | .int i => ofO S2 (slice (some i) none m.isSh (view S2 x))
    | _ => .bad
  | .slcU a hi, r, S => (evE G Φ a r S).bindK (simpE hi) fun x m S1 => (evE G Φ hi r S1).bind fun y _ S2 => match y with
    | .int i => ofO S2 (slice none (some i) m.isSh (view S2 x))
    | _ => .bad
  | .slcB a lo hi, r, S => (evE G Φ a r S).bindK (simpE lo && simpE hi) fun x m S1 => (evE G Φ lo r S1).bind fun y _ S2 => match y with
    | .int i => (evE G Φ hi r S2).bind fun z _ S3 => match z with
      | .int j => ofO S3 (slice (some i) (some j) m.isSh (view S3 x))
      | _ => .bad
    | _ => .bad
  | .rev a, r, S => (evE G Φ a r S).bind fun x _ S1 => match x with
    | .lst xs => .ok (.lst xs.reverse) .own S1
    | .tup xs => .ok (.tup xs.reverse) .sh S1
    | .str xs => .ok (.str xs.reverse) .sh S1
    | _ => .bad
  | .call f es, r, S => (evA G Φ es r S).bind fun vs S1 => Φ f vs S1
  | .meth m o es, r, S => (evE G Φ o r S).bind fun x _ S1 => match methOf G S1 x m with
    | some f => (evA G Φ es r S1).bind fun vs S2 => Φ f (.sh x :: vs) S2
    | none => .bad
  | .make c es, r, S => (evA G Φ es r S).bind fun vs S1 => match G.init c with
    | some f => (Φ f (.sh (.obj S1.length) :: vs) (S1 ++ [.ins c []])).bind fun v m S2 => match v, m with
      | .non, .sh => .ok (.obj S1.length) .sh S2
      | _, _ => .bad
    | none => .bad
  | .bi b es, r, S => (evA G Φ es r S).bind fun vs S1 => ofO S1 (bi b (vs.map fun x => view S1 (shOf x)))
  | .isi t a, r, S => (evE G Φ a r S).bind fun x _ S1 => ofB S1 (isTyO t (view S1 x))
  | .get1 d k, r, S => (evE G Φ d r S).bindK (simpE k) fun x _ S1 => if isDct (view S1 x) then (evE G Φ k r S1).bind fun y n S2 => match n, view S2 x with
    | .sh, .dct kvs => ofV S2 ((getK y kvs).map fun o => o.getD .non)
    | _, _ => .bad
    else .bad
  | .get2 d k z, r, S => (evE G Φ d r S).bindK (simpE k && simpE z) fun x _ S1 => if isDct (view S1 x) then (evE G Φ k r S1).bind fun y n S2 => (evE G Φ z r S2).bind fun z o S3 => match n, o, view S3 x with
    | .sh, .sh, .dct kvs => ofV S3 ((getK y kvs).map fun o => o.getD z)
    | _, _, _ => .bad
    else .bad
  | .items _, _, _ => .bad
  | .join _ _, _, _ => .bad
  | .split _ _, _, _ => .bad
  | .count a b, r, S => (evE G Φ a r S).bindK (simpE b) fun x _ S1 => if isLst (view S1 x) then (evE G Φ b r S1).bind fun y _ S2 => ofV S2 (countV (view S2 x) (view S2 y)) else .bad
  | .index a b, r, S => (evE G Φ a r S).bindK (simpE b) fun x _ S1 => if isLst (view S1 x) then (evE G Φ b r S1).bind fun y _ S2 => ofV S2 (indexV (view S2 x) (view S2 y)) else .bad
  | .fld f o, r, S => (evE G Φ o r S).bind fun x _ S1 => match getF S1 x f with
    | some (.sh v) => .ok v .sh S1
    | some (.own v) => .ok v .brf S1
    | _ => .bad
  | .mvf f o, r, S => (evE G Φ o r S).bind fun x _ S1 => match getF S1 x f with
    | some (.sh v) => .ok v .sh S1
    | some (.own v) => match putS S1 x f .un with
      | some S2 => .ok v .own S2
      | none => .bad
    | _ => .bad
  | .shf f o, r, S => (evE G Φ o r S).bind fun x _ S1 => match getF S1 x f with
    | some (.sh v) => .ok v .sh S1
    | some (.own v) => match putS S1 x f (.sh v) with
      | some S2 => .ok v .sh S2
      | none => .bad
    | _ => .bad
  | .bi1 b e, r, S => (evE G Φ e r S).bind fun x _ S1 => ofO S1 (bi b [view S1 x])
  | .lc elt tg it, r, S => (evI G Φ true it r S).bind fun xs S1 => if lim < xs.length then .bad else lcI (fun x S => match bindG S tg x r with
      | none => .bad
      | some r1 => match evE G Φ elt r1 S with
        | .ok v .sh S3 => .one v S3
        | .ok v .own S3 => .one v S3
        | _ => .bad) xs [] S1
  | .lcf elt tg it c, r, S => (evI G Φ true it r S).bind fun xs S1 => if lim < xs.length then .bad else lcI (fun x S => match bindG S tg x r with
      | none => .bad
      | some r1 => match evT G Φ c r1 S with
        | .ok true S2 => match evE G Φ elt r1 S2 with
          | .ok v .sh S3 => .one v S3
          | .ok v .own S3 => .one v S3
          | _ => .bad
        | .ok false S2 => .skip S2
        | _ => .bad) xs [] S1
  | .gsub t k, r, S => match G.tabs[t]? with
    | none => .bad
    | some kvs => (evE G Φ k r S).bind fun y _ S1 => match y with
      | .int j => ofV S1 (kvs.lookup j)
      | _ => .bad
  | .box e, r, S => (evE G Φ e r S).bind fun x m S1 => match m with
    | .own => .ok (.obj S1.length) .sh (S1 ++ [.box x])
    | _ => .bad
  | .frz e, r, S => (evE G Φ e r S).bind fun x _ S1 => match x with
    | .obj l => match S1[l]? with
      | some (.box v) => .ok v .sh (S1.set l (.fz v))
      | some (.fz v) => .ok v .sh S1
      | _ => .bad
    | _ => .bad
  | .pop0 e, r, S => (evE G Φ e r S).bind fun x _ S1 => match x with
    | .obj l => match S1[l]? with
      | some (.box (.lst (v :: xs))) => .ok v .sh (S1.set l (.box (.lst xs)))
      | _ => .bad
    | _ => .bad
/-- as a test -/
def evT (G : Prg) (Φ : Phi) : CT → Env → Sto → TRes
  | .and a b, r, S => (evT G Φ a r S).bindT fun k S1 => if k then evT G Φ b r S1 else .ok false S1
  | .or a b, r, S => (evT G Φ a r S).bindT fun k S1 => if k then .ok true S1 else evT G Φ b r S1
  | .not a, r, S => (evT G Φ a r S).bindT fun k S1 => .ok (!k) S1
  | .ite c a b, r, S => (evT G Φ c r S).bindT fun k S1 => if k then evT G Φ a r S1 else evT G Φ b r S1
  | .cm op a b, r, S => toT ((evE G Φ a r S).bindK (simpE b) fun x m S1 => (evE G Φ b r S1).bind fun y _ S2 => ofB S2 (cmp2 op m.isSh (view S2 x) (view S2 y)))
  | .chn3 o1 o2 o3 a b c d, r, S => toT ((evE G Φ a r S).bind fun x m S1 => (evE G Φ b r S1).bind fun y n S2 => if m.isSh && n.isSh then match cmp2 o1 true (view S2 x) (view S2 y) with
    | some true => (evE G Φ c r S2).bind fun z p S3 => if p.isSh then match cmp2 o2 true (view S3 y) (view S3 z) with
      | some true => (evE G Φ d r S3).bind fun u _ S4 => ofB S4 (cmp2 o3 true (view S4 z) (view S4 u))
      | some false => .ok (.bl false) .sh S3
      | none => .bad
      else .bad
    | some false => .ok (.bl false) .sh S2
    | none => .bad
    else .bad)
  | .chn o1 o2 a b c, r, S => toT ((evE G Φ a r S).bind fun x m S1 => (evE G Φ b r S1).bind fun y n S2 => if m.isSh && n.isSh then match cmp2 o1 true (view S2 x) (view S2 y) with
    | some true => (evE G Φ c r S2).bind fun z _ S3 => ofB S3 (cmp2 o2 true (view S3 y) (view S3 z))
    | some false => .ok (.bl false) .sh S2
    | none => .bad
    else .bad)
  | .e a, r, S => (evE G Φ a r S).bindT fun v _ S1 => match truth (view S1 v) with
    | some b => .ok b S1
    | none => .bad
def evA (G : Prg) (Φ : Phi) : CEs → Env → Sto → Ress
  | .nil, _, S => .ok [] S
  | .cons e es, r, S => (evE G Φ e r S).bindA fun v m S1 => (evA G Φ es r S1).bindA fun vs S2 => match m with
    | .sh => .ok (.sh v :: vs) S2
    | .own => .ok (.own v :: vs) S2
    | _ => .bad
def evI (G : Prg) (Φ : Phi) (b : Bool) : CI → Env → Sto → IRes
  | .seq e, r, S => (evE G Φ e r S).bindI fun v m S1 => match m.walk b && walkD m v, walk v with
    | true, some xs => .ok xs S1
    | _, _ => .bad
  | .rng1 e, r, S => (evE G Φ e r S).bindI fun v _ S1 => match v with
    | .int j => if -4611686018427387904 ≤ j ∧ j < 4611686018427387904 then .ok (range 0 j.toNat) S1 else .bad
    | _ => .bad
  | .rng2 a c, r, S => (evE G Φ a r S).bindI fun v _ S1 => (evE G Φ c r S1).bindI fun u _ S2 => match v, u with
    | .int i, .int j => if -4611686018427387904 ≤ i ∧ i < 4611686018427387904 ∧ -4611686018427387904 ≤ j ∧ j < 4611686018427387904 then .ok (range i (j - i).toNat) S2 else .bad
    | _, _ => .bad
  | .enum e, r, S => (evE G Φ e r S).bindI fun v m S1 => match m.walk b && isSeq v, walk v with
    | true, some xs => .ok (enumF 0 xs) S1
    | _, _ => .bad
  | .zip a c, r, S => (evE G Φ a r S).bindI fun v m S1 => (evE G Φ c r S1).bindI fun u n S2 => match m.walk b && n.walk b && sameSq v u, walk v, walk u with
    | true, some xs, some ys => .ok (zipF xs ys) S2
    | _, _, _ => .bad
end

/-! ### statements -/
mutual
inductive CS where
  | asg (t : Tg) (e : CE) | own (i : Nat) (e : CE)
  | par (i j : Nat) (a b : CE) | par3 (i j k : Nat) (a b c : CE)
  | dset (i : Nat) (k e : CE) | dsetF (f : Nat) (o k e : CE) | dsetB (o k e : CE) | lsetF (f : Nat) (o k e : CE)
  | app (i : Nat) (e : CE) | appF (f : Nat) (o e : CE) | appB (o e : CE) | ext (i : Nat) (e : CE) | extB (o e : CE)
  | fset (f : Nat) (o e : CE) | fmov (f j i : Nat)
  | expr (e : CE) | ret (e : CE) | retn | retv (i : Nat)
  | ife (c : CT) (a b : CSs) | whl (c : CT) (b : CSs) | for_ (t : Tg) (it : CI) (b : CSs)
  | brk | cnt | pass | raise (c : Nat) | try_ (b : CSs) (c : List Nat) (h : CSs)
  | shr (i : Nat) | bx (i : Nat) | kil (i : Nat)
inductive CSs where
  | nil | cons (s : CS) (r : CSs)
end
def SRes.bind (x : SRes) (k : Env → Sto → SRes) : SRes := match x with
  | .nx r S => k r S
  | y => y
@[simp] theorem SRes.bind_nx {r S k} : (SRes.nx r S).bind k = k r S := rfl
@[simp] theorem SRes.bind_ret {v m S k} : (SRes.ret v m S).bind k = .ret v m S := rfl
@[simp] theorem SRes.bind_brk {r S k} : (SRes.brk r S).bind k = .brk r S := rfl
@[simp] theorem SRes.bind_cnt {r S k} : (SRes.cnt r S).bind k = .cnt r S := rfl
@[simp] theorem SRes.bind_exc {c r S k} : (SRes.exc c r S).bind k = .exc c r S := rfl
@[simp] theorem SRes.bind_bad {k} : (SRes.bad).bind k = .bad := rfl
/-- how a loop goes on behind its body -/
def SRes.loop (x : SRes) (k : Env → Sto → SRes) : SRes := match x with
  | .nx r S => k r S
  | .cnt r S => k r S
  | .brk r S => .nx r S
  | y => y
@[simp] theorem SRes.loop_nx {r S k} : (SRes.nx r S).loop k = k r S := rfl
@[simp] theorem SRes.loop_ret {v m S k} : (SRes.ret v m S).loop k = .ret v m S := rfl
@[simp] theorem SRes.loop_brk {r S k} : (SRes.brk r S).loop k = .nx r S := rfl
@[simp] theorem SRes.loop_cnt {r S k} : (SRes.cnt r S).loop k = k r S := rfl
@[simp] theorem SRes.loop_exc {c r S k} : (SRes.exc c r S).loop k = .exc c r S := rfl
def nxO (S : Sto) : Option Env → SRes
  | some r => .nx r S
  | none => .bad
@[simp] theorem nxO_some {S r} : nxO S (some r) = .nx r S := rfl
def forI (g : Sto → PV → Env → Option Env) (b : Env → Sto → SRes) : List PV → Env → Sto → SRes
  | [], r, S => .nx r S
  | x :: xs, r, S => match g S x r with
    | none => .bad
    | some r1 => (b r1 S).loop fun r2 S2 => forI g b xs r2 S2
def whlI (c : Env → Sto → TRes) (b : Env → Sto → SRes) : Nat → Env → Sto → SRes
  | 0, _, _ => .bad
  | n + 1, r, S => (c r S).bindS r fun k S1 => if k then (b r S1).loop fun r2 S2 => whlI c b n r2 S2 else .nx r S1
/-- how often a while may go round -/
def rounds : Nat := 1000000
def ownL (r : Env) (i : Nat) : Option (List PV) := match r[i]? with
  | some (.own (.lst xs)) => some xs
  | _ => none
def ownD (r : Env) (i : Nat) : Option (List (Ky × PV)) := match r[i]? with
  | some (.own (.dct xs)) => some xs
  | _ => none
def boxL (S : Sto) : PV → Option (Nat × List PV)
  | .obj l => match S[l]? with
    | some (.box (.lst xs)) => some (l, xs)
    | _ => none
  | _ => none
def boxD (S : Sto) : PV → Option (Nat × List (Ky × PV))
  | .obj l => match S[l]? with
    | some (.box (.dct xs)) => some (l, xs)
    | _ => none
  | _ => none
def asgG (S : Sto) : Tg → PV → Md → Env → Option Env
  | .nm i, v, .sh, r => setS r i (.sh v)
  | .nm i, v, .own, r => setS r i (.own v)
  | .nm _, _, _, _ => none
  | t, v, .sh, r => bindG S t v r
  | _, _, _, _ => none
def appR (i : Nat) (xs : List PV) (v : PV) : Md → Env → Sto → SRes
  | .sh, r, S => if xs.length < lim then nxO S (setS r i (.own (.lst (xs ++ [v])))) else .bad
  | .own, r, S => if xs.length < lim then nxO S (setS r i (.own (.lst (xs ++ [v])))) else .bad
  | _, _, _ => .bad
def extR (i : Nat) (xs : List PV) : PV → Env → Sto → SRes
  | .lst ys, r, S => if xs.length + ys.length ≤ lim then nxO S (setS r i (.own (.lst (xs ++ ys)))) else .bad
  | _, _, _ => .bad
def parR (i j : Nat) (x y : PV) : Md → Md → Env → Sto → SRes
  | m, n, r, S => match md x m, md y n with
    | some x, some y => nxO S ((setS r i x).bind fun r => setS r j y)
    | _, _ => .bad
def dsetR (i : Nat) (kvs : List (Ky × PV)) (v : PV) (m : Md) (x : PV) (n : Md) (r : Env) (S : Sto) : SRes := match m.fin && n.isSh, keyOf x with
  | true, some k => if kvs.length < lim ∧ kindOk k kvs = true then nxO S (setS r i (.own (.dct (putK k v kvs)))) else .bad
  | _, _ => .bad
/-- o.f[x] = v, o.f.append(v): a dict, a list of the object's own -/
def dsetFR (f : Nat) (u x v : PV) (r : Env) (S : Sto) : SRes := match getF S u f, keyOf x with
  | some (.own (.dct kvs)), some k => if kvs.length < lim ∧ kindOk k kvs = true then (match putS S u f (.own (.dct (putK k v kvs))) with
    | some S4 => .nx r S4
    | none => .bad) else .bad
  | _, _ => .bad
def appFR (f : Nat) (u v : PV) (r : Env) (S : Sto) : SRes := match getF S u f with
  | some (.own (.lst xs)) => if xs.length < lim then (match putS S u f (.own (.lst (xs ++ [v]))) with
    | some S3 => .nx r S3
    | none => .bad) else .bad
  | _ => .bad
/-- what a return hands on -/
def retR (v : PV) : Md → Sto → SRes
  | .sh, S => .ret v .sh S
  | .own, S => .ret v .own S
  | _, _ => .bad
@[simp] theorem retR_sh {v S} : retR v .sh S = .ret v .sh S := rfl
@[simp] theorem retR_own {v S} : retR v .own S = .ret v .own S := rfl
mutual
def exS (G : Prg) (Φ : Phi) : CS → Env → Sto → SRes
  | .asg t e, r, S => (evE G Φ e r S).bindS r fun v m S1 => nxO S1 (asgG S1 t v m r)
  | .own i e, r, S => (evE G Φ e r S).bindS r fun v m S1 => nxO S1 (asgG S1 (.nm i) v m r)
  | .par i j a b, r, S => (evE G Φ a r S).bindS r fun x m S1 => (evE G Φ b r S1).bindS r fun y n S2 => parR i j x y m n r S2
  | .par3 i j k a b c, r, S => (evE G Φ a r S).bindS r fun x m S1 => (evE G Φ b r S1).bindS r fun y n S2 => (evE G Φ c r S2).bindS r fun z o S3 => match md x m, md y n, md z o with
    | some x, some y, some z => nxO S3 ((setS r i x).bind fun r => (setS r j y).bind fun r => setS r k z)
    | _, _, _ => .bad
  | .dset i k e, r, S => match ownD r i with
    | some kvs => (evE G Φ e r S).bindS r fun v m S1 => (evE G Φ k r S1).bindS r fun x n S2 => dsetR i kvs v m x n r S2
    | none => .bad
  | .dsetF f o k e, r, S => (evE G Φ e r S).bindS r fun v m S1 => (evE G Φ o r S1).bindS r fun u _ S2 => (evE G Φ k r S2).bindS r fun x n S3 => if simpE k && m.fin && n.isSh then dsetFR f u x v r S3 else .bad
  | .dsetB o k e, r, S => (evE G Φ e r S).bindS r fun v m S1 => (evE G Φ o r S1).bindS r fun u _ S2 => (evE G Φ k r S2).bindS r fun x _ S3 => match m, boxD S3 u, keyOf x with
    | .bor, _, _ => .bad
    | .brf, _, _ => .bad
    | _, some (l, kvs), some k => if kvs.length < lim ∧ kindOk k kvs then .nx r (S3.set l (.box (.dct (putK k v kvs)))) else .bad
    | _, _, _ => .bad
  | .lsetF _ _ _ _, _, _ => .bad
  | .app i e, r, S => match ownL r i with
    | some xs => (evE G Φ e r S).bindS r fun v m S1 => appR i xs v m r S1
    | none => .bad
  | .appF f o e, r, S => (evE G Φ o r S).bindS r fun u _ S1 => (evE G Φ e r S1).bindS r fun v m S2 => if simpT e && m.fin then appFR f u v r S2 else .bad
  | .appB o e, r, S => (evE G Φ o r S).bindS r fun u _ S1 => (evE G Φ e r S1).bindS r fun v m S2 => match m, boxL S2 u with
    | .bor, _ => .bad
    | .brf, _ => .bad
    | _, some (l, xs) => if xs.length < lim then .nx r (S2.set l (.box (.lst (xs ++ [v])))) else .bad
    | _, _ => .bad
  | .ext i e, r, S => match ownL r i with
    | some xs => (evE G Φ e r S).bindS r fun v _ S1 => extR i xs (view S1 v) r S1
    | none => .bad
  | .extB _ _, _, _ => .bad
  | .fset f o e, r, S => (evE G Φ e r S).bindS r fun v m S1 => (evE G Φ o r S1).bindS r fun u _ S2 => match md v m with
    | some x => (match putS S2 u f x with
      | some S3 => .nx r S3
      | none => .bad)
    | none => .bad
  | .fmov f j i, r, S => match r[i]?, r[j]? with
    | some (.own v), some (.sh u) => (match putS S u f (.own v) with
      | some S2 => nxO S2 (setS r i .un)
      | none => .bad)
    | some (.sh v), some (.sh u) => (match putS S u f (.sh v) with
      | some S2 => .nx r S2
      | none => .bad)
    | _, _ => .bad
  | .expr e, r, S => (evE G Φ e r S).bindS r fun _ _ S1 => .nx r S1
  | .ret e, r, S => (evE G Φ e r S).bindS r fun v m S1 => retR v m S1
  | .retn, _, S => .ret .non .sh S
  | .retv i, r, S => match r[i]? with
    | some (.sh v) => .ret v .sh S
    | some (.own v) => .ret v .own S
    | _ => .bad
  | .ife c a b, r, S => (evT G Φ c r S).bindS r fun k S1 => if k then exB G Φ a r S1 else exB G Φ b r S1
  | .whl c b, r, S => whlI (evT G Φ c) (exB G Φ b) rounds r S
  | .for_ t it b, r, S => (evI G Φ false it r S).bindS r fun xs S1 => forI (fun S x r => bindG S t x r) (exB G Φ b) xs r S1
  | .brk, r, S => .brk r S
  | .cnt, r, S => .cnt r S
  | .pass, r, S => .nx r S
  | .raise c, r, S => .exc c r S
  | .try_ b cs h, r, S => match exB G Φ b r S with
    | .exc c r1 S1 => if c ∈ cs then exB G Φ h r1 S1 else .exc c r1 S1
    | x => x
  | .shr i, r, S => match r[i]? with
    | some x => nxO S (setS r i (share x))
    | none => .bad
  | .kil i, r, S => nxO S (setS r i .un)
  | .bx i, r, S => match r[i]? with
    | some (.own v) => nxO (S ++ [.box v]) (setS r i (.sh (.obj S.length)))
    | _ => .bad
def exB (G : Prg) (Φ : Phi) : CSs → Env → Sto → SRes
  | .nil, r, S => .nx r S
  | .cons s b, r, S => (exS G Φ s r S).bind fun r1 S1 => exB G Φ b r1 S1
end

/-! ### defs -/
structure CD where
  params : Nat
  slots : Nat
  body : CSs
  /-- what is handed in stays its own -/
  own : Bool
def endR : SRes → Res
  | .nx _ S => .ok .non .sh S
  | .ret v m S => if m.fin then .ok v m S else .bad
  | .exc c _ S => .exc c S
  | _ => .bad
def runD (G : Prg) (Φ : Phi) (d : CD) (vs : List Sl) (S : Sto) : Res :=
  if vs.length = d.params then endR (exB G Φ d.body ((if d.own then vs else vs.map share) ++ List.replicate (d.slots - d.params) .un) S) else .bad
/-- calls so deep at most -/
def callN (G : Prg) (D : Nat → Option CD) : Nat → Phi
  | 0, _, _, _ => .bad
  | n + 1, f, vs, S => match D f with
    | some d => runD G (callN G D n) d vs S
    | none => .bad
end SR

set_option linter.all false
set_option maxRecDepth 100000
set_option maxHeartbeats 0
/-! Sorting by keys that are rows of ints: ints, texts, rows, and what begins with such (each unlike). -/
namespace SR
open PySem PySem.Spec PyProof.Rows
abbrev LL := HT.lexLt
theorem ll_cons (x y : Int) (a b : List Int) : LL (x :: a) (y :: b) = if x = y then LL a b else decide (x < y) := rfl
theorem ll_irr : ∀ a : List Int, LL a a = false
  | [] => rfl
  | x :: a => by
    rw [ll_cons, if_pos rfl]
    exact ll_irr a
theorem ll_asym : ∀ a b : List Int, LL a b = true → LL b a = false
  | [], [], h => by cases h
  | [], _ :: _, _ => rfl
  | _ :: _, [], h => by cases h
  | x :: a, y :: b, h => by
    rw [ll_cons] at h ⊢
    by_cases e : x = y
    · rw [if_pos e] at h
      rw [if_pos e.symm]
      exact ll_asym a b h
    · rw [if_neg e] at h
      rw [if_neg (Ne.symm e)]
      have z := of_decide_eq_true h
      exact decide_eq_false (by omega)
/-- what is not below goes on -/
theorem ll_neg : ∀ a b c : List Int, LL b a = false → LL c b = false → LL c a = false
  | [], _, [], _, _ => rfl
  | [], [], _ :: _, _, _ => rfl
  | [], _ :: _, _ :: _, _, _ => rfl
  | _ :: _, [], _, h, _ => by cases h
  | _ :: _, _ :: _, [], _, h => by cases h
  | x :: a, y :: b, z :: c, h1, h2 => by
    rw [ll_cons] at h1 h2 ⊢
    by_cases e1 : y = x
    · rw [if_pos e1] at h1
      by_cases e2 : z = y
      · rw [if_pos e2] at h2
        rw [if_pos (e2.trans e1)]
        exact ll_neg a b c h1 h2
      · rw [if_neg e2] at h2
        rw [if_neg (by rw [← e1]; exact e2), ← e1]
        exact h2
    · rw [if_neg e1] at h1
      have g1 := of_decide_eq_false h1
      by_cases e2 : z = y
      · rw [if_neg (by rw [e2]; exact e1), e2]
        exact h1
      · rw [if_neg e2] at h2
        have g2 := of_decide_eq_false h2
        have g3 : z ≠ x := by omega
        rw [if_neg g3]
        exact decide_eq_false (by omega)
theorem ll_swo {α : Type} (k : α → List Int) : SrtO.Swo (fun x y => LL (k x) (k y)) := ⟨fun x y h => ll_asym _ _ h, fun x y z h1 h2 => by
  first | exact ll_neg _ _ _ h1 h2 | exact ll_neg _ _ _ h2 h1⟩
theorem leI_ll : ∀ a b : List Int, leI a b = !LL b a
  | [], [] => rfl
  | [], _ :: _ => rfl
  | _ :: _, [] => rfl
  | x :: a, y :: b => by
    rw [ll_cons]
    unfold leI
    by_cases e : x = y
    · subst e
      rw [if_pos rfl, ← leI_ll a b]
      simp
    · rw [if_neg (Ne.symm e)]
      have e2 : (x == y) = false := beq_eq_false_iff_ne.mpr e
      rw [e2]
      by_cases z : x < y
      · have z2 : ¬ y < x := by omega
        simp [z, z2]
      · have z2 : y < x := by omega
        simp [z, z2]
/-! ### the insertion sort is stable -/
section
variable {α : Type} {lt : α → α → Bool}
theorem ins_perm (x : α) (le : α → α → Bool) : ∀ l : List α, (insertBy le x l).Perm (x :: l)
  | [] => List.Perm.refl _
  | y :: l => by
    unfold insertBy
    split
    · exact List.Perm.refl _
    · exact ((ins_perm x le l).cons y).trans (List.Perm.swap x y l)
theorem sort_perm (le : α → α → Bool) : ∀ l : List α, (sortBy le l).Perm l
  | [] => List.Perm.refl _
  | x :: l => (ins_perm x le _).trans ((sort_perm le l).cons x)
theorem ins_sorted (O : SrtO.Swo lt) (x : α) : ∀ l : List α, SrtO.Srtd lt l → SrtO.Srtd lt (insertBy (fun a b => !lt b a) x l)
  | [], _ => List.pairwise_singleton _ _
  | y :: l, h => by
    unfold insertBy
    split
    · rename_i c
      have c : lt y x = false := by simpa using c
      refine List.pairwise_cons.mpr ⟨fun z hz => ?_, h⟩
      rcases List.mem_cons.mp hz with e | hz
      · rw [e]; exact c
      · have q := SrtO.srtd_head h z hz
        cases hh : lt z x with
        | false => rfl
        | true =>
          have := O.ltle hh c
          rw [this] at q
          cases q
    · rename_i c
      have c : lt y x = true := by simpa using c
      refine List.pairwise_cons.mpr ⟨fun z hz => ?_, ins_sorted O x l (List.pairwise_cons.mp h).2⟩
      rcases List.mem_cons.mp ((ins_perm x _ l).mem_iff.mp hz) with e | hz
      · rw [e]
        exact O.asym _ _ c
      · exact SrtO.srtd_head h z hz
theorem sort_sorted (O : SrtO.Swo lt) : ∀ l : List α, SrtO.Srtd lt (sortBy (fun a b => !lt b a) l)
  | [] => List.Pairwise.nil
  | x :: l => ins_sorted O x _ (sort_sorted O l)
theorem eqv_eq {x y z : α} (O : SrtO.Swo lt) (h1 : SrtO.eqv lt x y = true) (h2 : SrtO.eqv lt x z = true) : lt z y = false := by
  obtain ⟨a, b⟩ := SrtO.eqv_iff.mp h1
  obtain ⟨c, d⟩ := SrtO.eqv_iff.mp h2
  exact O.tr y x z a d
theorem ins_cls (O : SrtO.Swo lt) (q x : α) : ∀ l : List α, (insertBy (fun a b => !lt b a) x l).filter (SrtO.eqv lt q) = (x :: l).filter (SrtO.eqv lt q)
  | [] => rfl
  | y :: l => by
    unfold insertBy
    split
    · rfl
    · rename_i c
      have c : lt y x = true := by simpa using c
      have ih := ins_cls O q x l
      cases h1 : SrtO.eqv lt q y with
      | false =>
        rw [List.filter_cons_of_neg (by rw [h1]; decide), ih]
        cases h2 : SrtO.eqv lt q x with
        | false => rw [List.filter_cons_of_neg (by rw [h2]; decide), List.filter_cons_of_neg (by rw [h2]; decide), List.filter_cons_of_neg (by rw [h1]; decide)]
        | true => rw [List.filter_cons_of_pos h2, List.filter_cons_of_pos h2, List.filter_cons_of_neg (by rw [h1]; decide)]
      | true =>
        have h2 : SrtO.eqv lt q x = false := by
          cases h2 : SrtO.eqv lt q x with
          | false => rfl
          | true =>
            have := eqv_eq O h2 h1
            rw [c] at this
            cases this
        rw [List.filter_cons_of_pos h1, ih, List.filter_cons_of_neg (by rw [h2]; decide), List.filter_cons_of_neg (by rw [h2]; decide), List.filter_cons_of_pos h1]
theorem sort_stb (O : SrtO.Swo lt) : ∀ l : List α, SrtO.Stb lt (sortBy (fun a b => !lt b a) l) l
  | [] => SrtO.Stb.refl _
  | x :: l => by
    have ih := sort_stb O l
    refine ⟨sort_perm _ _, fun q => ?_⟩
    show (insertBy _ x (sortBy _ l)).filter _ = _
    rw [ins_cls O q x]
    have e := ih.cls q
    cases h : SrtO.eqv lt q x with
    | false => rw [List.filter_cons_of_neg (by rw [h]; decide), List.filter_cons_of_neg (by rw [h]; decide), e]
    | true => rw [List.filter_cons_of_pos h, List.filter_cons_of_pos h, e]
/-- what is sorted and a stable rearrangement is what the insertion sort makes -/
theorem srt_uniq (O : SrtO.Swo lt) {out l : List α} (h1 : SrtO.Srtd lt out) (h2 : SrtO.Stb lt out l) : out = sortBy (fun a b => !lt b a) l := by
  refine SrtO.stb_uniq O h1 (sort_sorted O l) ⟨h2.perm.trans (sort_perm _ l).symm, fun q => ?_⟩
  rw [h2.cls q, (sort_stb O l).cls q]
end
theorem ins_congr {α : Type} {le le' : α → α → Bool} (x : α) : ∀ l : List α, (∀ y ∈ l, le x y = le' x y) → insertBy le x l = insertBy le' x l
  | [], _ => rfl
  | y :: l, h => by
    unfold insertBy
    rw [h y List.mem_cons_self, ins_congr x l fun z hz => h z (List.mem_cons_of_mem _ hz)]
theorem sort_congr {α : Type} {le le' : α → α → Bool} : ∀ l : List α, (∀ x ∈ l, ∀ y ∈ l, le x y = le' x y) → sortBy le l = sortBy le' l
  | [], _ => rfl
  | x :: l, h => by
    unfold sortBy
    rw [sort_congr l fun a ha b hb => h a (List.mem_cons_of_mem _ ha) b (List.mem_cons_of_mem _ hb)]
    exact ins_congr x _ fun y hy => h x List.mem_cons_self y (List.mem_cons_of_mem _ ((sort_perm le' l).mem_iff.mp hy))
theorem ins_map {α β : Type} {le : β → β → Bool} (f : α → β) (x : α) : ∀ l : List α, (insertBy (fun a b => le (f a) (f b)) x l).map f = insertBy le (f x) (l.map f)
  | [] => rfl
  | y :: l => by
    unfold insertBy
    rw [List.map_cons]
    dsimp only
    split
    · rfl
    · rw [List.map_cons, ins_map f x l]
theorem sort_map {α β : Type} {le : β → β → Bool} (f : α → β) : ∀ l : List α, (sortBy (fun a b => le (f a) (f b)) l).map f = sortBy le (l.map f)
  | [] => rfl
  | x :: l => by
    show (insertBy _ x (sortBy _ l)).map f = insertBy le (f x) (sortBy le (l.map f))
    rw [ins_map, sort_map f l]
/-! ### keys of what stands in the heap -/
def codes (x : Str) : List Int := x.cps.toList.map Int.ofNat
inductive KeyAt (h : Heap) : Nat → Value → List Int → Prop where
  | int (i : Int) (t : Tok) : KeyAt h 0 (.int i t) [i]
  | str (x : Str) (t : Tok) : KeyAt h 1 (.str x t) (codes x)
  | row (a : Addr) (its : Array Value) (ns : List Int) : h.IsTuple a its → IntsAre its.toList ns → ns ≠ [] → KeyAt h 2 (.ref a) ns
  | rowF (a b : Addr) (its : Array Value) (rest : List Value) (js : Array Value) (ns : List Int) : h.IsTuple a its → its.toList = .ref b :: rest → h.IsTuple b js → IntsAre js.toList ns → KeyAt h 3 (.ref a) ns
  | strF (a : Addr) (its : Array Value) (rest : List Value) (x : Str) (t : Tok) : h.IsTuple a its → its.toList = .str x t :: rest → KeyAt h 4 (.ref a) (codes x)
theorem codes_inj {x y : Str} (e : codes x = codes y) : x = y := by
  have h : x.cps.toList = y.cps.toList := by
    have inj : ∀ a b : List Nat, a.map Int.ofNat = b.map Int.ofNat → a = b := by
      intro a
      induction a with
      | nil => intro b e; cases b <;> simp at e ⊢
      | cons p a ih =>
        intro b e
        cases b with
        | nil => simp at e
        | cons q b =>
          simp only [List.map_cons, List.cons.injEq] at e
          rw [ih b e.2, Int.ofNat.inj e.1]
    exact inj _ _ e
  cases x
  cases y
  simp only at h
  rw [Array.toList_inj.mp h]
theorem codes_lt : ∀ a b : List Nat, LL (a.map Int.ofNat) (b.map Int.ofNat) = decide (a < b)
  | [], [] => by simp [HT.lexLt]
  | [], _ :: _ => by simp [HT.lexLt]
  | _ :: _, [] => by simp [HT.lexLt]
  | x :: a, y :: b => by
    rw [List.map_cons, List.map_cons, ll_cons]
    by_cases e : x = y
    · subst e
      rw [if_pos rfl, codes_lt a b]
      simp
    · have e2 : ¬ Int.ofNat x = Int.ofNat y := fun z => e (Int.ofNat.inj z)
      rw [if_neg e2]
      have : (x :: a < y :: b) ↔ x < y := by
        rw [List.cons_lt_cons_iff]
        simp [e]
      simp only [this]
      have : (Int.ofNat x < Int.ofNat y) ↔ x < y := by simp
      simp only [this]

section
variable {P : Program} {w : World} {A : Around} {E : Value → Shared → Prop} {s : Shared} {Q : Bool → Shared → Prop}
theorem ll_len : ∀ a b : List Int, a.length < b.length → (∀ i (h : i < a.length) (h2 : i < b.length), a[i] = b[i]) → LL a b = true
  | [], [], h, _ => by simp at h
  | [], _ :: _, _, _ => rfl
  | _ :: _, [], h, _ => by simp at h
  | x :: a, y :: b, h, e => by
    have e0 : x = y := e 0 (by simp) (by simp)
    rw [ll_cons, if_pos e0]
    exact ll_len a b (by simpa using h) fun i h1 h2 => by
      have := e (i + 1) (by simp; exact h1) (by simp; exact h2)
      simpa using this
/-- rows of ints, part by part -/
theorem lex_rows {b fin : Bool} {xs ys : List Value} {ns ms : List Int} (i : Nat) (hx : IntsAre xs ns) (hy : IntsAre ys ms) (hf : fin = decide (ns.length < ms.length))
    (h : Q (LL ns ms) s) : PySem.W.KatLex P w A b fin Q (xs.zip ys) i s := by
  induction hx generalizing ys ms i with
  | nil =>
    cases hy with
    | nil =>
      obtain rfl : fin = false := by rw [hf]; rfl
      exact PySem.W.kat_nil h
    | cons q u hy =>
      obtain rfl : fin = true := by rw [hf]; simp
      exact PySem.W.kat_nil h
  | @cons p t xs ns hx ih =>
    cases hy with
    | nil =>
      obtain rfl : fin = false := by rw [hf]; simp
      exact PySem.W.kat_nil h
    | @cons q u ys ms hy =>
      show PySem.W.KatLex P w A b fin Q ((Value.int p t, Value.int q u) :: xs.zip ys) i s
      refine PySem.W.kat_cons (SeqAt.EqAt.int_int p t q u P w _ _ ?_)
      rw [ll_cons] at h
      refine PySem.W.kat_go (fun e => ?_) (fun e => ?_)
      · have e : p = q := by simpa using e
        rw [if_pos e] at h
        exact PySem.W.kat_yes (ih (i + 1) hy (by rw [hf]; simp) h)
      · have e : p ≠ q := by simpa using e
        rw [if_neg e] at h
        exact PySem.W.kat_no (TS.oneLt_ints _ h)
theorem ints_size {xs : Array Value} {ns : List Int} (h : IntsAre xs.toList ns) : xs.size = ns.length := by
  have := h.length
  rwa [Array.length_toList] at this
theorem ints_get {xs : Array Value} {ns : List Int} (h : IntsAre xs.toList ns) {i : Nat} (hi : i < xs.size) (hi2 : i < ns.length) : ∃ t, xs[i] = .int ns[i] t := by
  obtain ⟨t, e⟩ := PyProof.Rows.IntsAre.int_at h i xs[i] (by rw [Array.getElem?_toList, Array.getElem?_eq_getElem hi])
  refine ⟨t, ?_⟩
  rw [e, List.getD_eq_getElem?_getD, List.getElem?_eq_getElem hi2]
  rfl
theorem tup_one {h : Heap} {a : Addr} {xs ys : Array Value} (h1 : h.IsTuple a xs) (h2 : h.IsTuple a ys) : xs = ys := by
  obtain ⟨o, e, _, n, d⟩ := h1
  obtain ⟨o', e', _, n', d'⟩ := h2
  rw [e] at e'
  cases e'
  rw [d] at d'
  injection d'
theorem ints_one {xs : List Value} {ns ms : List Int} (h1 : IntsAre xs ns) (h2 : IntsAre xs ms) : ns = ms := by
  induction h1 generalizing ms with
  | nil => cases h2; rfl
  | cons n t h ih => cases h2 with | cons m u h2 => rw [ih h2]
/-- are two rows one -/
theorem eq_rows {a b : Addr} {xs ys : Array Value} {ns ms : List Int} (ha : s.heap.IsTuple a xs) (hb : s.heap.IsTuple b ys) (hx : IntsAre xs.toList ns) (hy : IntsAre ys.toList ms) (hu : A.units < cLine) : SeqAt.EqAt A s (.ref a) (.ref b) (decide (ns = ms)) := by
  by_cases e : a = b
  · subst e
    obtain rfl := tup_one ha hb
    obtain rfl := ints_one hx hy
    rw [decide_eq_true rfl]
    exact SeqAt.EqAt.same _
  · have z := SeqAt.RcAt.tuples (A := A) (e := fun j => decide (ns.getD j 0 = ms.getD j 0)) ha hb hu fun j h1 h2 => by
      have g1 : j < ns.length := by rw [← ints_size hx]; exact h1
      have g2 : j < ms.length := by rw [← ints_size hy]; exact h2
      obtain ⟨t, e1⟩ := ints_get hx h1 g1
      obtain ⟨u, e2⟩ := ints_get hy h2 g2
      have q := SeqAt.EqAt.int_int (A := A.in1) (s := s) ns[j] t ms[j] u
      rw [← e1, ← e2] at q
      have e3 : (ns[j] == ms[j]) = decide (ns.getD j 0 = ms.getD j 0) := by
        simp only [List.getD_eq_getElem?_getD, List.getElem?_eq_getElem g1, List.getElem?_eq_getElem g2, Option.getD_some]
        rfl
      rw [e3] at q
      exact q
    refine SeqAt.EqAt.of_refs e ?_
    have e4 : ((List.range (min xs.size ys.size)).all (fun j => decide (ns.getD j 0 = ms.getD j 0)) && xs.size == ys.size) = decide (ns = ms) := by
      rw [ints_size hx, ints_size hy]
      rw [Bool.eq_iff_iff]
      simp only [Bool.and_eq_true, List.all_eq_true, List.mem_range, decide_eq_true_eq, beq_iff_eq]
      constructor
      · rintro ⟨h1, h2⟩
        apply List.ext_getElem h2
        intro i g1 g2
        have := h1 i (by omega)
        simpa only [List.getD_eq_getElem?_getD, List.getElem?_eq_getElem g1, List.getElem?_eq_getElem g2, Option.getD_some] using this
      · rintro rfl
        exact ⟨fun _ _ => rfl, rfl⟩
    rw [e4] at z
    exact z
theorem lex_same {fin : Bool} {b : Bool} : ∀ (xs : List Value) (i : Nat), Q fin s → PySem.W.KatLex P w A b fin Q (xs.zip xs) i s
  | [], i, h => PySem.W.kat_nil h
  | x :: xs, i, h => by
    show PySem.W.KatLex P w A b fin Q ((x, x) :: xs.zip xs) i s
    exact PySem.W.kat_cons (SeqAt.EqAt.same x P w _ _ (PySem.W.kat_yes (lex_same xs (i + 1) h)))
theorem KeyAt.keep {h h' : Heap} {kd : Nat} {v : Value} {k : List Int} (q : ∀ b o, h.get? b = some o → o.cls = .type "tuple" → h'.get? b = some o) (x : KeyAt h kd v k) : KeyAt h' kd v k := by
  have t : ∀ {a its}, h.IsTuple a its → h'.IsTuple a its := fun ⟨o, e, c, n, d⟩ => ⟨o, q _ o e c, c, n, d⟩
  cases x with
  | int i t => exact .int i t
  | str x t => exact .str x t
  | row a its _ h1 h2 h3 => exact .row a its _ (t h1) h2 h3
  | rowF a b its rest js _ h1 h2 h3 h4 => exact .rowF a b its rest js _ (t h1) h2 (t h3) h4
  | strF a its rest x u h1 h2 => exact .strF a its rest x u (t h1) h2
def kindN : Nat → SortKind
  | 0 => oneType'
  | 1 => oneType'
  | 2 => tuples' true
  | 3 => tuples' false
  | _ => tuples' true
/-- how two keys are compared -/
theorem key_cmp {vs : List Value} {kd : Nat} {key : Value → List Int} (hk : ∀ v ∈ vs, KeyAt s.heap kd v (key v)) (hd : 3 ≤ kd → ∀ v ∈ vs, ∀ u ∈ vs, key v = key u → v = u) (hu : A.units + 2 < cLine) :
    SrtO.Cmp P w A s (kindN kd) (fun p => p.1 ∈ vs) (SrtO.lt2 fun v u => LL (key v) (key u)) := by
  intro p q hm hm'
  have kp := hk _ hm
  have kq := hk _ hm'
  have dst := fun z => hd z _ hm _ hm'
  show wpAny (model P w) A (keyLt' _ p.1 q.1) (fun r s' => s' = s ∧ r = LL (key p.1) (key q.1)) (fun _ _ => False) s
  generalize key p.1 = k1 at kp dst ⊢
  generalize key q.1 = k2 at kq dst ⊢
  generalize p.1 = v1 at kp dst ⊢
  generalize q.1 = v2 at kq dst ⊢
  cases kp with
  | int i t =>
    cases kq with
    | int j u =>
      show wpAny _ _ (keyLt' oneType' _ _) _ _ _
      rw [keyLt'_oneType]
      refine oneLt_int ⟨rfl, ?_⟩
      rw [ll_cons]
      by_cases e : i = j
      · rw [if_pos e, e]
        exact decide_eq_false (Int.lt_irrefl _)
      · rw [if_neg e]
  | str x t =>
    cases kq with
    | str y u =>
      show wpAny _ _ (keyLt' oneType' _ _) _ _ _
      rw [keyLt'_oneType]
      refine oneLt_str ⟨rfl, ?_⟩
      exact (codes_lt _ _).symm
  | row a xs _ h1 h2 h3 =>
    cases kq with
    | row b ys _ g1 g2 g3 =>
      obtain ⟨o, ho, hc, n, hdt⟩ := h1
      obtain ⟨o', ho', hc', n', hdt'⟩ := g1
      show wpAny _ _ (keyLt' (tuples' true) _ _) _ _ _
      refine PySem.W.kat_lt ho hdt ho' hdt' ?_
      refine lex_rows 0 h2 g2 (by rw [ints_size h2, ints_size g2]) ⟨rfl, rfl⟩
  | rowF a b xs rest js _ h1 h2 h3 h4 =>
    cases kq with
    | rowF a' b' ys rest' js' _ g1 g2 g3 g4 =>
      show wpAny _ _ (keyLt' (tuples' false) _ _) _ _ _
      by_cases e : k1 = k2
      · have ev := dst (by decide) e
        injection ev with ev
        subst ev e
        obtain rfl := tup_one h1 g1
        obtain ⟨o, ho, hc, n, hdt⟩ := h1
        refine PySem.W.kat_lt ho hdt ho hdt (lex_same _ 0 ⟨rfl, ?_⟩)
        rw [ll_irr]
        exact decide_eq_false (Nat.lt_irrefl _)
      · obtain ⟨o, ho, hc, n, hdt⟩ := h1
        obtain ⟨o', ho', hc', n', hdt'⟩ := g1
        refine PySem.W.kat_lt ho hdt ho' hdt' ?_
        rw [h2, g2]
        show PySem.W.KatLex P w A false _ _ ((Value.ref b, Value.ref b') :: rest.zip rest') 0 s
        refine PySem.W.kat_cons (eq_rows h3 g3 h4 g4 (by omega) P w _ _ ?_)
        rw [decide_eq_false e]
        refine PySem.W.kat_no (PySem.W.kat_one _ _ ?_)
        refine HT.lt_tupInts h3 g3 h4 g4 (by omega) ?_
        exact ⟨rfl, rfl⟩
  | strF a xs rest x t h1 h2 =>
    cases kq with
    | strF a' ys rest' y u g1 g2 =>
      show wpAny _ _ (keyLt' (tuples' true) _ _) _ _ _
      by_cases e : codes x = codes y
      · have ev := dst (by decide) e
        injection ev with ev
        subst ev
        obtain rfl := tup_one h1 g1
        obtain ⟨o, ho, hc, n, hdt⟩ := h1
        refine PySem.W.kat_lt ho hdt ho hdt (lex_same _ 0 ⟨rfl, ?_⟩)
        rw [e, ll_irr]
        exact decide_eq_false (Nat.lt_irrefl _)
      · obtain ⟨o, ho, hc, n, hdt⟩ := h1
        obtain ⟨o', ho', hc', n', hdt'⟩ := g1
        refine PySem.W.kat_lt ho hdt ho' hdt' ?_
        rw [h2, g2]
        show PySem.W.KatLex P w A true _ _ ((Value.str x t, Value.str y u) :: rest.zip rest') 0 s
        refine PySem.W.kat_cons (SeqAt.EqAt.str_str x t y u P w _ _ ?_)
        have ne : (x == y) = false := beq_eq_false_iff_ne.mpr fun z => e (by rw [z])
        rw [ne]
        exact PySem.W.kat_no (oneLt_str ⟨rfl, (codes_lt _ _).symm⟩)
end

section
variable {P : Program} {w : World} {A : Around} {E : Value → Shared → Prop} {s : Shared}
theorem keys_ints {vs : List Value} {key : Value → List Int} (hk : ∀ v ∈ vs, KeyAt s.heap 0 v (key v)) : ∃ ns, IntsAre vs ns := by
  induction vs with
  | nil => exact ⟨[], .nil⟩
  | cons v vs ih =>
    obtain ⟨ns, h⟩ := ih fun u hu => hk u (List.mem_cons_of_mem _ hu)
    have := hk v List.mem_cons_self
    generalize key v = k at this
    cases this with
    | int i t => exact ⟨i :: ns, .cons i t h⟩
theorem keys_strs {vs : List Value} {key : Value → List Int} (hk : ∀ v ∈ vs, KeyAt s.heap 1 v (key v)) : ∃ ns, StrsAre vs ns := by
  induction vs with
  | nil => exact ⟨[], .nil⟩
  | cons v vs ih =>
    obtain ⟨ns, h⟩ := ih fun u hu => hk u (List.mem_cons_of_mem _ hu)
    have := hk v List.mem_cons_self
    generalize key v = k at this
    cases this with
    | str x t => exact ⟨x :: ns, .cons x t h⟩
theorem keys_firsts {T : Value} {kd : Nat} {h : Heap} {M : Model} {key : Value → List Int} (h2 : 2 ≤ kd) (hT : T = match kd with | 2 => .type "int" | 3 => .type "tuple" | _ => .type "str") : ∀ {vs : List Value}, (∀ v ∈ vs, KeyAt h kd v (key v)) →
    ∃ fs, PySem.W.KatTups h vs fs ∧ fs.length = vs.length ∧ ∀ f ∈ fs, PySem.W.Looks M h (typeOf f) T
  | [], _ => ⟨[], trivial, rfl, fun f hf => by cases hf⟩
  | v :: vs, hk => by
    obtain ⟨fs, k1, k2, k3⟩ := keys_firsts h2 hT fun u hu => hk u (List.mem_cons_of_mem _ hu)
    have := hk v List.mem_cons_self
    generalize key v = k at this
    have one : ∀ {a : Addr} {its : Array Value} {f : Value} {r : List Value}, h.IsTuple a its → its.toList = f :: r → v = .ref a → PySem.W.Looks M h (typeOf f) T → ∃ fs, PySem.W.KatTups h (v :: vs) fs ∧ fs.length = (v :: vs).length ∧ ∀ f ∈ fs, PySem.W.Looks M h (typeOf f) T := by
      intro a its f r ⟨o, e, c, n, d⟩ e2 e3 l
      subst e3
      refine ⟨f :: fs, PySem.W.KatTups.cons e c d ?_ k1, by simp [k2], fun g hg => ?_⟩
      · rw [← Array.getElem?_toList, e2]
        rfl
      · rcases List.mem_cons.mp hg with e | hg
        · rw [e]; exact l
        · exact k3 g hg
    cases this with
    | int i t => omega
    | str x t => omega
    | row a its _ h1 h3 h4 =>
      subst hT
      cases h5 : its.toList with
      | nil =>
        rw [h5] at h3
        cases h3
        exact absurd rfl h4
      | cons f r =>
        rw [h5] at h3
        cases h3 with
        | cons n t h3 => exact one h1 h5 rfl PySem.W.Looks.now
    | rowF a b its rest js _ h1 h3 h4 h5 =>
      subst hT
      obtain ⟨o, e, c, n, d⟩ := h4
      exact one h1 h3 rfl (show PySem.W.Looks M h (typeOf (.ref b)) _ from by rw [← c]; exact (PySem.W.Looks.ld e).andThen .now)
    | strF a its rest x u h1 h3 =>
      subst hT
      exact one h1 h3 rfl PySem.W.Looks.now
/-- such may be sorted -/
theorem keys_sortable {a : Addr} {vs : List Value} {kd : Nat} {key : Value → List Int} (h2 : 2 ≤ vs.length) (h4 : kd ≤ 4) (hk : ∀ v ∈ vs, KeyAt s.heap kd v (key v)) (hd : 3 ≤ kd → ∀ v ∈ vs, ∀ u ∈ vs, key v = key u → v = u) (hu : A.units + 2 < cLine)
    (ha : ∀ o, s.heap.get? a = some o → o.cls ≠ .type "tuple") : SrtO.SortableO P w A s a vs fun v u => LL (key v) (key u) := by
  intro h' keep
  have hk' : ∀ v ∈ vs, KeyAt h' kd v (key v) := fun v hm => (hk v hm).keep fun b o e c => keep b o (fun z => by subst z; exact ha o e c) e
  have cmp := key_cmp (P := P) (w := w) (A := A) (s := { s with heap := h' }) hk' hd hu
  match kd, h4, hk', cmp, hd with
  | 0, _, hk', cmp, _ =>
    refine ⟨_, fun Q E hq => ?_, cmp⟩
    obtain ⟨ns, hI⟩ := keys_ints (s := { s with heap := h' }) hk'
    match vs, hI, h2 with
    | v1 :: v2 :: rest, hI, _ =>
      rw [keyKind_ints hI]
      exact wpAny_pure hq
    | [], _, h => exact absurd h (by decide)
    | [v], _, h => exact absurd h (by simp)
  | 1, _, hk', cmp, _ =>
    refine ⟨_, fun Q E hq => ?_, cmp⟩
    obtain ⟨ns, hI⟩ := keys_strs (s := { s with heap := h' }) hk'
    match vs, hI, h2 with
    | v1 :: v2 :: rest, hI, _ =>
      rw [keyKind_strs hI]
      exact wpAny_pure hq
    | [], _, h => exact absurd h (by decide)
    | [v], _, h => exact absurd h (by simp)
  | 2, _, hk', cmp, _ =>
    obtain ⟨fs, k1, k2, k3⟩ := keys_firsts (M := model P w) (T := .type "int") (by decide) rfl hk'
    refine ⟨_, fun Q E hq => ?_, cmp⟩
    exact PySem.W.kat_kind (s := { s with heap := h' }) k1 (by omega) k3 (by rfl) (by
      have e : (Value.type "int" != Value.type "tuple") = true := by decide +kernel
      rw [e]; exact hq)
  | 3, _, hk', cmp, _ =>
    obtain ⟨fs, k1, k2, k3⟩ := keys_firsts (M := model P w) (T := .type "tuple") (by decide) rfl hk'
    refine ⟨_, fun Q E hq => ?_, cmp⟩
    exact PySem.W.kat_kind (s := { s with heap := h' }) k1 (by omega) k3 (by rfl) (by
      have e : (Value.type "tuple" != Value.type "tuple") = false := by decide +kernel
      rw [e]; exact hq)
  | 4, _, hk', cmp, _ =>
    obtain ⟨fs, k1, k2, k3⟩ := keys_firsts (M := model P w) (T := .type "str") (by decide) rfl hk'
    refine ⟨_, fun Q E hq => ?_, cmp⟩
    exact PySem.W.kat_kind (s := { s with heap := h' }) k1 (by omega) k3 (by rfl) (by
      have e : (Value.type "str" != Value.type "tuple") = true := by decide +kernel
      rw [e]; exact hq)
end
end SR

set_option linter.all false
set_option maxRecDepth 100000
set_option maxHeartbeats 0
/-! sorted of lists and of sets, by rows. -/
namespace SR
open PySem PySem.Spec PyProof.Rows L2
section
variable {P : Program} {w : World} {A : Around} {E : Value → Shared → Prop} {s : Shared}
/-- the members of a set, sorted by their rows -/
theorem sorted_members {a : Addr} {es : Array (Int × Value)} {ep : Nat} {t : SetTable} {kd : Nat} {key : Value → List Int} {Q : Value → Shared → Prop} (hh : A.handled = none) (sa : SetAt s.heap a es ep t) (fit : t.fits es.size = true)
    (bnd : es.size < scanBound) (ris : Ris t.place.toList) (led : w.params.followText "set-order" = true ∨ t.led = true) (h2 : kd ≤ 2) (hk : ∀ e ∈ es.toList, KeyAt s.heap kd e.2 (key e.2)) (hu : A.units + 10 < cLine)
    (fin : ∀ s' p (out vs : List Value) (c : Nat), kept s.heap s'.heap → s'.gens = s.gens → s'.os = s.os → s.heap.objs.size ≤ p → s'.heap.get? p = some (seqObj "list" out.toArray c) →
      vs.Perm (es.toList.map (·.2)) → SrtO.Srtd (fun v u => LL (key v) (key u)) out → SrtO.Stb (fun v u => LL (key v) (key u)) out vs → Q (.ref p) s') :
    wpAny (model P w) A (call (.builtin "sorted") [.ref a]) Q E s := by
  refine Calls.call_function_entry kind_sorted plain_sorted entry_sorted (args_sorted1 _) ?_
  unfold Builtin.«sorted»
  refine wpAny_bind (m := checkCount "sorted" 1 1 _) (wpAny_pure ?_)
  refine wpAny_bind (collect_set (A := A.in1) hh sa fit bnd ris led fun s1 vs k1 sz g1 o1 pm => ?_)
  have few : vs.length < scanBound := by
    rw [pm.length_eq, List.length_map, Array.length_toList]
    exact bnd
  have line : vs.length ≤ sizeLine := fits_of_scanBound few
  refine wpAny_bind (wpAny_newList ?_ line)
  have new : (s1.heap.push (seqObj "list" vs.toArray 0)).get? s1.heap.objs.size = some (seqObj "list" vs.toArray 0) := Heap.get?_push_size _ rfl
  have keys : ∀ v ∈ vs, KeyAt (s1.heap.push (seqObj "list" vs.toArray 0)) kd v (key v) := fun v hv => by
    obtain ⟨e, he, q⟩ := List.mem_map.mp (pm.mem_iff.mp hv)
    rw [← q]
    exact (hk e he).keep fun b o z _ => Heap.get?_push_of_some _ (k1 b o z)
  refine wpAny_bind (wpAny_holding (wpAny_call_entry slot_list_sort ⟨_, new, rfl⟩ entry_list_sort
    (SrtO.list_sort_ord (ll_swo key) new line (fun m2 => ?_) fun out srt stb => ⟨_, rfl, ?_⟩) (args_list_sort _)))
  · refine keys_sortable (s := { s1 with heap := s1.heap.push (seqObj "list" vs.toArray 0) }) m2 (by omega) keys (fun z => by omega) ?_ fun o z => ?_
    · show A.units + 1 + 1 + 2 < cLine
      omega
    · have e' : some o = some (seqObj "list" vs.toArray 0) := z.symm.trans new
      cases e'
      intro c
      exact absurd (Value.type.inj c) (by decide)
  · obtain ⟨c, hc⟩ := sortedHeap_at (vs := vs) (out := out.toArray) new
    refine wpAny_pure ⟨_, rfl, fin _ s1.heap.objs.size out vs c (fun b u z => ?_) g1 o1 sz hc pm srt stb⟩
    have q := k1 b u z
    have lt := Heap.lt_size q
    show (sortedHeap (s1.heap.push (seqObj "list" vs.toArray 0)) s1.heap.objs.size vs out.toArray).get? b = some u
    rw [sortedHeap_old (Nat.ne_of_lt lt) (by rw [size_push']; exact Nat.lt_succ_of_lt lt)]
    exact Heap.get?_push_of_some _ q
end
/-! ### in the layer -/
section
variable {X : Cx}
def SetMO (w : World) (a : Addr) (M : Key → Bool) (n : Nat) : HO := .ext fun h => SetM w h a M n
/-- set(xs): ints and texts -/
def rSetOfK (K : PySem.W.Frag) (w : World) : List V → Hp → VK → Prop := fun vs H Q => ∃ (l : Addr) (ks : List Key), vs = [V.ref l] ∧ SqL K H l (ks.map kV) ∧ ks.length + 1 < scanBound ∧
  ∀ p c, H p = none → c ≤ ks.length → Q (.ref p) (upd H p (SetMO w p (inK ks) c))
theorem cr_setOfK (hc : X.calm = true) : CallR X (.type "set") (rSetOfK X.K X.w) := by
  intro pins s σ H vs us Q I r h
  obtain ⟨l, ks, rfl, hl, bnd, q⟩ := h
  rw [Vals.ref1 r]
  obtain ⟨its, rv, pl, _⟩ := I.list hl
  refine call_set_keys ks (I.ok.hd hc) pl.isList rv bnd fun h' tk c m hle kp => ?_
  refine ⟨.ref s.heap.objs.size, upd H s.heap.objs.size (SetMO X.w s.heap.objs.size (inK ks) c), I.laid (t' := tk) kp (Nat.le_refl _) ?_, rfl, q _ c (I.hok.fresh (Nat.le_refl _)) hle⟩
  have ⟨ob, _, _, _, at0, _⟩ := m
  exact ⟨m, ⟨ob, at0⟩, fun h1 h2 p k => SetM.keep p k⟩
def rSetOfKT (K : PySem.W.Frag) (w : World) : List V → Hp → VK → Prop := fun vs H Q => ∃ (l : Addr) (ks : List Key), vs = [V.ref l] ∧ SqT K H l (ks.map kV) ∧ ks.length + 1 < scanBound ∧
  ∀ p c, H p = none → c ≤ ks.length → Q (.ref p) (upd H p (SetMO w p (inK ks) c))
theorem cr_setOfKT (hc : X.calm = true) : CallR X (.type "set") (rSetOfKT X.K X.w) := by
  intro pins s σ H vs us Q I r h
  obtain ⟨l, ks, rfl, hl, bnd, q⟩ := h
  rw [Vals.ref1 r]
  obtain ⟨its, rv, pl, _⟩ := I.tuple hl
  refine call_set_keysT ks (I.ok.hd hc) pl rv bnd fun h' tk c m hle kp => ?_
  refine ⟨.ref s.heap.objs.size, upd H s.heap.objs.size (SetMO X.w s.heap.objs.size (inK ks) c), I.laid (t' := tk) kp (Nat.le_refl _) ?_, rfl, q _ c (I.hok.fresh (Nat.le_refl _)) hle⟩
  have ⟨ob, _, _, _, at0, _⟩ := m
  exact ⟨m, ⟨ob, at0⟩, fun h1 h2 p k => SetM.keep p k⟩
theorem cr_or {f : Value} {r1 r2 : List V → Hp → VK → Prop} (h1 : CallR X f r1) (h2 : CallR X f r2) : CallR X f (fun vs H Q => r1 vs H Q ∨ r2 vs H Q) := fun pins s σ H vs us Q I r h => h.elim (h1 pins s σ H vs us Q I r) (h2 pins s σ H vs us Q I r)
/-- what is laid by a call that draws -/
theorem inv_laid {pins : List (Addr × Obj)} {σ : L2.St} {H : Hp} {s s' : Shared} {p : Addr} {o : HO} (I : Inv X pins σ H s) (k : kept s.heap s'.heap) (g : s'.gens = s.gens) (e : s'.os = s.os) (hp : s.heap.objs.size ≤ p) (new : ObjOk X.prog X.w (upd H p o) s'.heap p o) : Inv X pins σ (upd H p o) s' := by
  have J : Inv X pins σ (upd H p o) { s with heap := s'.heap, gens := s'.gens, drawn := s'.drawn, toks := s'.toks } :=
    I.call (ch := []) (Un.laid k hp (I.hok.fresh hp)) (I.hok.laid k hp new) (by rw [g]; exact I.bare) (fun _ z => nomatch z)
  cases s'
  cases s
  cases e
  exact J
/-- sorted(s), s a set of keys of one kind; sorted(xs), xs a list of such -/
def rowK : Key → List Int
  | .inl i => [i]
  | .inr x => codes x
def kdK : Key → Nat
  | .inl _ => 0
  | .inr _ => 1
theorem keyAt_K {h : Heap} {k : Key} {u : Value} (r : RelV (kV k) u) : KeyAt h (kdK k) u (rowK k) := by
  cases k with
  | inl i => obtain ⟨t, rfl⟩ := r; exact .int i t
  | inr x => obtain ⟨t, rfl⟩ := r; exact .str x t
theorem rowK_inj {a b : Key} (e : kdK a = kdK b) (h : rowK a = rowK b) : a = b := by
  cases a <;> cases b
  · injection h with h; rw [h]
  · cases e
  · cases e
  · rw [codes_inj h]
def valK : Value → Key
  | .int i _ => .inl i
  | .str x _ => .inr x
  | _ => .inl 0
theorem valK_rel {k : Key} {u : Value} (r : RelV (kV k) u) : valK u = k := by
  cases k with
  | inl i => obtain ⟨t, rfl⟩ := r; rfl
  | inr x => obtain ⟨t, rfl⟩ := r; rfl
theorem vals_keys : ∀ {us : List Value}, (∀ u ∈ us, ∃ k, RelV (kV k) u) → Vals ((us.map valK).map kV) us
  | [], _ => .nil
  | u :: us, h => by
    obtain ⟨k, r⟩ := h u List.mem_cons_self
    refine .cons ?_ (vals_keys fun v hv => h v (List.mem_cons_of_mem _ hv))
    rw [valK_rel r]
    exact r
def rSortedM (w : World) : List V → Hp → VK → Prop := fun vs H Q => ∃ (a : Addr) (ks : List Key) (c kd : Nat), vs = [V.ref a] ∧ H a = some (SetMO w a (inK ks) c) ∧ (∀ k ∈ ks, kdK k = kd) ∧
  ∀ (out : List Key) (p : Addr), H p = none → out.Nodup → (∀ k, k ∈ out ↔ k ∈ ks) → SrtO.Srtd (fun x y => LL (rowK x) (rowK y)) out → Q (.ref p) (upd H p (.lst (out.map kV)))
theorem cr_sortedM (hc : X.calm = true) (hu : X.A.units + 20 < cLine) : CallR X (.builtin "sorted") (rSortedM X.w) := by
  intro pins s σ H vs us Q I r h
  obtain ⟨a, ks, c, kd, rfl, ha, hkd, q⟩ := h
  have m : SetM X.w s.heap a (inK ks) c := (I.hok a _ ha).1
  rw [Vals.ref1 r]
  obtain ⟨ob, rows, ep, tab, at0, ex, dat, ent, nod, mem, bnd, fit, cnt, ris, led⟩ := m
  have rel : ∀ e ∈ rows.toList, ∃ k ∈ ks, RelV (kV k) e.2 := fun e he => by
    obtain ⟨k, r, _⟩ := ent e he
    have : k ∈ rows.toList.map kOf := List.mem_map.mpr ⟨e, he, kOf_rel r⟩
    exact ⟨k, inK_iff.mp ((mem k).mpr this), r⟩
  have kd2 : rows.toList = [] ∨ kd ≤ 1 := by
    cases hr : rows.toList with
    | nil => exact .inl rfl
    | cons e _ =>
      obtain ⟨k, hk, _⟩ := rel e (by rw [hr]; exact List.mem_cons_self)
      refine .inr ?_
      rw [← hkd k hk]
      cases k
      · exact Nat.zero_le _
      · exact Nat.le_refl _
  refine sorted_members (kd := min kd 1) (key := fun u => rowK (valK u)) (I.ok.hd hc) ⟨ob, at0, ex.1, dat⟩ fit bnd ris led (by omega) (fun e he => ?_) (by omega) fun s' p out vs n kp g o sz ob' pm srt stb => ?_
  · obtain ⟨k, hk, rk⟩ := rel e he
    have z := keyAt_K (h := s.heap) rk
    rw [hkd k hk] at z
    have z2 : min kd 1 = kd := by
      rcases kd2 with z | z
      · rw [z] at he; cases he
      · omega
    rw [z2, valK_rel rk]
    exact z
  · have pm2 : out.Perm (rows.toList.map (·.2)) := stb.perm.trans pm
    have rel2 : ∀ u ∈ out, ∃ k, RelV (kV k) u := fun u hu => by
      obtain ⟨e, he, z⟩ := List.mem_map.mp (pm2.mem_iff.mp hu)
      obtain ⟨k, _, rk⟩ := rel e he
      exact ⟨k, by rw [← z]; exact rk⟩
    have pm3 : (out.map valK).Perm (rows.toList.map kOf) := by
      have z := pm2.map valK
      rw [List.map_map] at z
      have e : ∀ x ∈ rows.toList, (valK ∘ fun x => x.2) x = kOf x := fun x hx => by
        obtain ⟨k, _, rk⟩ := rel x hx
        show valK x.2 = kOf x
        rw [valK_rel rk, kOf_rel rk]
      rwa [List.map_congr_left e] at z
    have nd : (out.map valK).Nodup := pm3.nodup_iff.mpr nod
    have lin : ((out.map valK).map kV).length ≤ sizeLine := by
      rw [List.length_map, List.length_map, pm2.length_eq, List.length_map, Array.length_toList]
      exact fits_of_scanBound bnd
    refine ⟨.ref p, upd H p (.lst ((out.map valK).map kV)), inv_laid I kp g o sz ⟨lin, out, n, vals_keys rel2, ob'⟩, rfl, q _ p (I.hok.fresh sz) nd (fun k => ?_) (SrtO.srtd_map srt)⟩
    rw [pm3.mem_iff, ← mem k, inK_iff]
/-- sorted(s), s a set of rows -/
def rSortedR (K : PySem.W.Frag) (P : Program) (w : World) : List V → Hp → VK → Prop := fun vs H Q => ∃ (a : Addr) (L : List (Addr × List Int)), vs = [V.ref a] ∧ H a = some (SetTO P w a L) ∧ (∀ p ∈ L, SqT K H p.1 (p.2.map V.int)) ∧ (∀ p ∈ L, p.2 ≠ []) ∧
  ∀ (L' : List (Addr × List Int)) (p : Addr), L'.Perm L → (L'.map (·.2)).Nodup → SrtO.Srtd (fun x y : Addr × List Int => LL x.2 y.2) L' → H p = none → Q (.ref p) (upd H p (.lst (L'.map fun q => V.ref q.1)))
theorem cr_sortedR (hc : X.calm = true) (hu : X.A.units + 20 < cLine) : CallR X (.builtin "sorted") (rSortedR X.K X.prog X.w) := by
  intro pins s σ H vs us Q I r h
  obtain ⟨a, L, rfl, ha, hk, hne, q⟩ := h
  have R0 : SetT0 X.prog X.w s.heap a L := (I.hok a _ ha).1
  obtain ⟨es, ep, t, R⟩ := R0.full fun p hp => I.isT (hk p hp)
  rw [Vals.ref1 r]
  obtain ⟨o, ho, ex, hd⟩ := R.ob
  have hes : es.toList.map (·.2) = L.map fun q => Value.ref q.1 := by
    rw [R.rows]
    unfold rowsOf
    rw [List.map_map]
    rfl
  have one : ∀ q ∈ L, ∀ r ∈ L, q.1 = r.1 → q = r := fun q hq r hr e => by
    have a1 := R.tup q hq
    have a2 := R.tup r hr
    rw [e] at a1
    exact Prod.ext e (a1.inj a2)
  let key : Value → List Int := fun u => match u with
    | .ref b => ((L.find? fun q => decide (q.1 = b)).map (·.2)).getD []
    | _ => []
  have kq : ∀ q ∈ L, key (.ref q.1) = q.2 := fun q hq => by
    show ((L.find? fun r => decide (r.1 = q.1)).map (·.2)).getD [] = q.2
    cases hf : L.find? fun r => decide (r.1 = q.1) with
    | none =>
      have := List.find?_eq_none.mp hf q hq
      simp at this
    | some r =>
      have e : r.1 = q.1 := by simpa using List.find?_some hf
      have := one r (List.mem_of_find?_eq_some hf) q hq e
      rw [this]
      rfl
  have mem : ∀ u, u ∈ es.toList.map (·.2) → ∃ q ∈ L, u = .ref q.1 := fun u hu => by
    rw [hes] at hu
    obtain ⟨q, hq, e⟩ := List.mem_map.mp hu
    exact ⟨q, hq, e.symm⟩
  refine sorted_members (kd := 2) (key := key) (I.ok.hd hc) ⟨o, ho, ex.1, hd⟩ R.fits (by have := R.size; have := R.few; unfold scanBound; omega) R.tab.ris R.led (by decide) (fun e he => ?_) (by omega) fun s' p out vs n kp g o' sz ob' pm srt stb => ?_
  · obtain ⟨q, hq, e2⟩ := mem e.2 (List.mem_map.mpr ⟨e, he, rfl⟩)
    rw [e2, kq q hq]
    obtain ⟨_, its, n, h1, h2, h3, h4⟩ := R.tup q hq
    exact .row q.1 its q.2 ⟨_, h1, h2, n, h3⟩ (ints_of_items h4) (hne q hq)
  · have pm2 := stb.perm.trans pm
    have ord : ∀ vs : List Value, (∀ v ∈ vs, ∃ q ∈ L, v = Value.ref q.1) → ∃ L1 : List (Addr × List Int), vs = L1.map (fun q => Value.ref q.1) ∧ ∀ q ∈ L1, q ∈ L := by
      intro vs
      induction vs with
      | nil => exact fun _ => ⟨[], rfl, fun _ hq => nomatch hq⟩
      | cons v vs ih =>
        intro hv
        obtain ⟨q, hq, rfl⟩ := hv v List.mem_cons_self
        obtain ⟨L1, rfl, hs⟩ := ih fun u hu => hv u (List.mem_cons_of_mem _ hu)
        exact ⟨q :: L1, rfl, fun r hr => (List.mem_cons.mp hr).elim (fun z => z ▸ hq) (hs r)⟩
    obtain ⟨L1, rfl, sub⟩ := ord out fun v hv => mem v (pm2.mem_iff.mp hv)
    rw [hes] at pm2
    have nL : L.Nodup := nodup_of_map R.nd
    have nref : (L.map fun q => Value.ref q.1).Nodup := by
      refine List.pairwise_map.mpr (List.Pairwise.imp_of_mem (fun {x y} hx hy hne e => ?_) nL)
      injection e with e
      exact hne (one x hx y hy e)
    have n1 : L1.Nodup := nodup_of_map (pm2.nodup_iff.mpr nref)
    have pL : L1.Perm L := (List.perm_ext_iff_of_nodup n1 nL).mpr fun x => ⟨sub x, fun hx => by
      obtain ⟨y, hy, e⟩ := List.mem_map.mp (pm2.mem_iff.mpr (List.mem_map.mpr ⟨x, hx, rfl⟩))
      injection e with e
      rw [← one y (sub y hy) x hx e]
      exact hy⟩
    have lin : (L1.map fun q => V.ref q.1).length ≤ sizeLine := by
      rw [List.length_map, pL.length_eq, sizeLine_eq]
      have := R.few
      omega
    refine ⟨.ref p, upd H p (.lst (L1.map fun q => V.ref q.1)), inv_laid I kp g o' sz ⟨lin, _, n, vals_of_refs L1, ob'⟩, rfl, q L1 p pL ((pL.map (·.2)).nodup_iff.mpr R.nd) ?_ (I.hok.fresh sz)⟩
    have z := List.pairwise_map.mp srt
    refine List.Pairwise.imp_of_mem (fun {x y} hx hy h => ?_) z
    have h : LL (key (.ref y.1)) (key (.ref x.1)) = false := h
    rwa [kq x (sub x hx), kq y (sub y hy)] at h
end
end SR

set_option maxRecDepth 100000
/-! How values stand in the hand layer's heap. -/
namespace SR
open PySem (Addr Str Value)
open L2 (V Hp HO Key upd Rd SqL SqT)

/-- where the store's things stand; what is shared: written no more -/
structure Wd where
  m : List Addr
  sh : Addr → Prop
def txt (x : List Nat) : Str := ⟨x.toArray⟩
def ascii (x : List Nat) : Prop := ∀ c ∈ x, c < 128
def WrT (K : PySem.W.Frag) (a : Addr) (xs : List V) : Prop := ∃ (o : PySem.Obj) (its : Array Value) (n : Nat), K.lookup a = some o ∧ o.cls = .type "tuple" ∧ o.data = .seq its n ∧ its.size ≤ PySem.sizeLine ∧ L2.Vals xs its.toList
def LS (W : Wd) (H : Hp) (a : Addr) (xs : List V) : Prop := W.sh a ∧ Rd H a (.lst xs)
/-- a tuple that is no row of numbers from 0 may be the top's own -/
def TS (K : PySem.W.Frag) (W : Wd) (H : Hp) (a : Addr) (ps : List PV) (xs : List V) : Prop := (W.sh a ∧ H a = some (.tup xs)) ∨ (WrT K a xs ∧ pathOf ps = none)

inductive KeyR : Ky → Key → Prop where
  | int (i : Int) : KeyR (.int i) (.inl i)
  | str (x : List Nat) : ascii x → KeyR (.str x) (.inr (txt x))
def pathK (p : List Nat) : List Key := p.map fun (n : Nat) => .inl (n : Int)

mutual
/-- a value that may stand anywhere -/
def RepV (K : PySem.W.Frag) (W : Wd) (H : Hp) : PV → V → Prop
  | .non, v => v = .non
  | .bl b, v => v = .bl b
  | .int i, v => v = .int i
  | .str x, v => v = .str (txt x) ∧ ascii x
  | .tup xs, v => ∃ a vs, v = .ref a ∧ TS K W H a xs vs ∧ RepVs K W H xs vs
  | .lst xs, v => ∃ a vs, v = .ref a ∧ LS W H a vs ∧ RepVs K W H xs vs
  | .dct kvs, v => ∃ a, v = .ref a ∧ W.sh a ∧ ((∃ ks, Rd H a (.dK ks) ∧ RepK K W H kvs ks) ∨ (∃ ks, Rd H a (.dT ks) ∧ RepT K W H kvs ks))
  | .obj l, v => ∃ a, W.m[l]? = some a ∧ v = .ref a
def RepVs (K : PySem.W.Frag) (W : Wd) (H : Hp) : List PV → List V → Prop
  | [], vs => vs = []
  | x :: xs, vs => ∃ v r, vs = v :: r ∧ RepV K W H x v ∧ RepVs K W H xs r
def RepK (K : PySem.W.Frag) (W : Wd) (H : Hp) : List (Ky × PV) → List (Key × V) → Prop
  | [], ks => ks = []
  | (k, x) :: xs, ks => ∃ k' v r, ks = (k', v) :: r ∧ KeyR k k' ∧ RepV K W H x v ∧ RepK K W H xs r
def RepT (K : PySem.W.Frag) (W : Wd) (H : Hp) : List (Ky × PV) → List (List Key × V) → Prop
  | [], ks => ks = []
  | (k, x) :: xs, ks => ∃ k' v r, ks = (pathK k', v) :: r ∧ k = .tp k' ∧ RepV K W H x v ∧ RepT K W H xs r
end

/-- one heap behind another: what is shared stays -/
def cont : HO → Prop
  | .lst _ => True
  | .tup _ => True
  | .dK _ => True
  | .dT _ => True
  | _ => False
structure Grow (W : Wd) (H : Hp) (W' : Wd) (H' : Hp) : Prop where
  m : ∃ t, W'.m = W.m ++ t
  sh : ∀ a, W.sh a → W'.sh a
  rd : ∀ a u, W.sh a → cont u → Rd H a u → Rd H' a u
  tp : ∀ a xs, W.sh a → H a = some (.tup xs) → H' a = some (.tup xs)
  fz : ∀ a o u, W.sh a → H a = some (.frz o u) → H' a = some (.frz o u)
theorem Grow.refl (W : Wd) (H : Hp) : Grow W H W H := ⟨⟨[], (List.append_nil _).symm⟩, fun _ h => h, fun _ _ _ _ h => h, fun _ _ _ h => h, fun _ _ _ _ h => h⟩
theorem Grow.trans {W W1 W2 : Wd} {H H1 H2 : Hp} (a : Grow W H W1 H1) (b : Grow W1 H1 W2 H2) : Grow W H W2 H2 := by
  obtain ⟨t, e⟩ := a.m
  obtain ⟨u, e'⟩ := b.m
  exact ⟨⟨t ++ u, by rw [e', e, List.append_assoc]⟩, fun x h => b.sh x (a.sh x h), fun x u h c r => b.rd x u (a.sh x h) c (a.rd x u h c r), fun x u h r => b.tp x u (a.sh x h) (a.tp x u h r), fun x o u h r => b.fz x o u (a.sh x h) (a.fz x o u h r)⟩
section
variable {K : PySem.W.Frag} {W W' : Wd} {H H' : Hp}
mutual
theorem RepV.grow (g : Grow W H W' H') : ∀ (x : PV) (v : V), RepV K W H x v → RepV K W' H' x v
  | .non, v, h => by simpa only [RepV] using h
  | .bl _, v, h => by simpa only [RepV] using h
  | .int _, v, h => by simpa only [RepV] using h
  | .str _, v, h => by simpa only [RepV] using h
  | .tup xs, v, h => by
    simp only [RepV] at h ⊢
    obtain ⟨a, vs, e, s, r⟩ := h
    exact ⟨a, vs, e, s.imp (fun z => ⟨g.sh a z.1, g.tp a _ z.1 z.2⟩) id, RepVs.grow g xs vs r⟩
  | .lst xs, v, h => by
    simp only [RepV] at h ⊢
    obtain ⟨a, vs, e, s, r⟩ := h
    exact ⟨a, vs, e, ⟨g.sh a s.1, g.rd a _ s.1 trivial s.2⟩, RepVs.grow g xs vs r⟩
  | .dct kvs, v, h => by
    simp only [RepV] at h ⊢
    obtain ⟨a, e, s, r⟩ := h
    exact ⟨a, e, g.sh a s, r.imp (fun ⟨ks, q, z⟩ => ⟨ks, g.rd a _ s trivial q, RepK.grow g kvs ks z⟩) (fun ⟨ks, q, z⟩ => ⟨ks, g.rd a _ s trivial q, RepT.grow g kvs ks z⟩)⟩
  | .obj l, v, h => by
    simp only [RepV] at h ⊢
    obtain ⟨a, e, s⟩ := h
    obtain ⟨t, q⟩ := g.m
    refine ⟨a, ?_, s⟩
    rw [q, List.getElem?_append_left (List.getElem?_eq_some_iff.mp e).1]
    exact e
theorem RepVs.grow (g : Grow W H W' H') : ∀ (x : List PV) (v : List V), RepVs K W H x v → RepVs K W' H' x v
  | [], v, h => by simpa only [RepVs] using h
  | x :: xs, v, h => by
    simp only [RepVs] at h ⊢
    obtain ⟨y, r, e, h1, h2⟩ := h
    exact ⟨y, r, e, RepV.grow g x y h1, RepVs.grow g xs r h2⟩
theorem RepK.grow (g : Grow W H W' H') : ∀ (x : List (Ky × PV)) (v : List (Key × V)), RepK K W H x v → RepK K W' H' x v
  | [], v, h => by simpa only [RepK] using h
  | (k, x) :: xs, v, h => by
    simp only [RepK] at h ⊢
    obtain ⟨k', y, r, e, h0, h1, h2⟩ := h
    exact ⟨k', y, r, e, h0, RepV.grow g x y h1, RepK.grow g xs r h2⟩
theorem RepT.grow (g : Grow W H W' H') : ∀ (x : List (Ky × PV)) (v : List (List Key × V)), RepT K W H x v → RepT K W' H' x v
  | [], v, h => by simpa only [RepT] using h
  | (k, x) :: xs, v, h => by
    simp only [RepT] at h ⊢
    obtain ⟨k', y, r, e, h0, h1, h2⟩ := h
    exact ⟨k', y, r, e, h0, RepV.grow g x y h1, RepT.grow g xs r h2⟩
end
end

/-! ### slots, things, the store -/
/-- where classes stand, what fields are called -/
structure Tb where
  cls : Nat → Addr
  /-- the classes that are known -/
  ok : Nat → Prop
  fns : List Str
  nd : fns.Nodup
section
variable (K : PySem.W.Frag) (T : Tb) (W : Wd) (H : Hp)
/-- a list or dict that stands at one place alone -/
def OwnR : PV → Addr → Prop
  | .lst xs, a => ∃ vs, H a = some (.lst vs) ∧ RepVs K W H xs vs
  | .dct kvs, a => (∃ ks, H a = some (.dK ks) ∧ RepK K W H kvs ks) ∨ (∃ ks, H a = some (.dT ks) ∧ RepT K W H kvs ks)
  | _, _ => False
def SlR : Sl → Option V → List Addr → Prop
  | .un, _, A => A = []
  | .sh v, o, A => A = [] ∧ ∃ x, o = some x ∧ RepV K W H v x
  | .own v, o, A => ∃ a, A = [a] ∧ o = some (.ref a) ∧ OwnR K W H v a
def SlsR : List Sl → List (Option V) → List Addr → Prop
  | [], os, A => os = [] ∧ A = []
  | s :: r, os, A => ∃ o t B C, os = o :: t ∧ A = B ++ C ∧ SlR K W H s o B ∧ SlsR r t C
def FsR : List (Nat × Sl) → List (Str × V) → List Addr → Prop
  | [], gs, A => gs = [] ∧ A = []
  | (f, s) :: r, gs, A => ∃ x v t B C, gs = (x, v) :: t ∧ A = B ++ C ∧ T.fns[f]? = some x ∧ SlR K W H s (some v) B ∧ FsR r t C
def PoR : PO → Addr → List Addr → Prop
  | .ins c fs, a, A => T.ok c ∧ ∃ dx gs B, A = a :: dx :: B ∧ H a = some (.ins (T.cls c) dx gs) ∧ H dx = some (.own a) ∧ FsR K T W H fs gs B
  | .box v, a, A => A = [a] ∧ OwnR K W H v a
  | .fz v, a, A => A = [] ∧ RepV K W H v (.ref a)
def StoR : Sto → List Addr → List Addr → Prop
  | [], m, A => m = [] ∧ A = []
  | o :: S, m, A => ∃ a t B C, m = a :: t ∧ A = B ++ C ∧ PoR K T W H o a B ∧ StoR S t C
/-- no tuple -/
def nT : HO → Prop
  | .tup _ => False
  | _ => True
/-- all that is owned stands apart; F: what is owned outside of the store -/
structure Ok (S : Sto) (F : List Addr) : Prop where
  st : ∃ A, StoR K T W H S W.m A ∧ (F ++ A).Nodup ∧ ∀ a ∈ F ++ A, (∃ o, H a = some o ∧ nT o) ∧ ¬ W.sh a
  shd : ∀ a, W.sh a → ∃ o, H a = some o
end
section
variable {K : PySem.W.Frag} {T : Tb} {W W' : Wd} {H H' : Hp}
theorem OwnR.grow (g : Grow W H W' H') : ∀ {v : PV} {a : Addr}, H' a = H a → OwnR K W H v a → OwnR K W' H' v a
  | .lst xs, a, e, h => by
    obtain ⟨vs, q, r⟩ := h
    exact ⟨vs, by rw [e]; exact q, r.grow g _ _⟩
  | .dct kvs, a, e, h => h.imp (fun ⟨ks, q, r⟩ => ⟨ks, by rw [e]; exact q, r.grow g _ _⟩) (fun ⟨ks, q, r⟩ => ⟨ks, by rw [e]; exact q, r.grow g _ _⟩)
  | .non, _, _, h => h.elim
  | .bl _, _, _, h => h.elim
  | .int _, _, _, h => h.elim
  | .str _, _, _, h => h.elim
  | .tup _, _, _, h => h.elim
  | .obj _, _, _, h => h.elim
theorem OwnR.some {v : PV} {a : Addr} (h : OwnR K W H v a) : ∃ o, H a = some o := by
  cases v with
  | lst xs => obtain ⟨vs, q, _⟩ := h; exact ⟨_, q⟩
  | dct kvs => rcases h with ⟨ks, q, _⟩ | ⟨ks, q, _⟩ <;> exact ⟨_, q⟩
  | _ => exact h.elim
theorem SlR.grow (g : Grow W H W' H') {s : Sl} {o : Option V} {A : List Addr} (e : ∀ a ∈ A, H' a = H a) (h : SlR K W H s o A) : SlR K W' H' s o A := by
  cases s with
  | un => exact h
  | sh v => obtain ⟨rfl, x, rfl, r⟩ := h; exact ⟨rfl, x, rfl, r.grow g _ _⟩
  | own v => obtain ⟨a, rfl, rfl, r⟩ := h; exact ⟨a, rfl, rfl, r.grow g (e a (by simp))⟩
theorem SlsR.grow (g : Grow W H W' H') : ∀ {s : List Sl} {o : List (Option V)} {A : List Addr}, (∀ a ∈ A, H' a = H a) → SlsR K W H s o A → SlsR K W' H' s o A
  | [], _, _, _, h => h
  | s :: r, os, A, e, h => by
    obtain ⟨o, t, B, C, rfl, rfl, h1, h2⟩ := h
    exact ⟨o, t, B, C, rfl, rfl, h1.grow g fun a ha => e a (List.mem_append_left _ ha), SlsR.grow g (fun a ha => e a (List.mem_append_right _ ha)) h2⟩
theorem FsR.grow (g : Grow W H W' H') : ∀ {s : List (Nat × Sl)} {o : List (Str × V)} {A : List Addr}, (∀ a ∈ A, H' a = H a) → FsR K T W H s o A → FsR K T W' H' s o A
  | [], _, _, _, h => h
  | (f, s) :: r, os, A, e, h => by
    obtain ⟨x, v, t, B, C, rfl, rfl, h0, h1, h2⟩ := h
    exact ⟨x, v, t, B, C, rfl, rfl, h0, h1.grow g fun a ha => e a (List.mem_append_left _ ha), FsR.grow g (fun a ha => e a (List.mem_append_right _ ha)) h2⟩
theorem PoR.grow (g : Grow W H W' H') {s : PO} {a : Addr} {A : List Addr} (e : ∀ a ∈ A, H' a = H a) (h : PoR K T W H s a A) : PoR K T W' H' s a A := by
  cases s with
  | ins c fs =>
    obtain ⟨h0, dx, gs, B, rfl, h1, h2, h3⟩ := h
    exact ⟨h0, dx, gs, B, rfl, by rw [e a (by simp)]; exact h1, by rw [e dx (by simp)]; exact h2, h3.grow g fun b hb => e b (by simp [hb])⟩
  | box v => obtain ⟨rfl, r⟩ := h; exact ⟨rfl, r.grow g (e a (by simp))⟩
  | fz v => obtain ⟨rfl, r⟩ := h; exact ⟨rfl, r.grow g _ _⟩
theorem StoR.grow (g : Grow W H W' H') : ∀ {S : Sto} {m : List Addr} {A : List Addr}, (∀ a ∈ A, H' a = H a) → StoR K T W H S m A → StoR K T W' H' S m A
  | [], _, _, _, h => h
  | o :: S, m, A, e, h => by
    obtain ⟨a, t, B, C, rfl, rfl, h1, h2⟩ := h
    exact ⟨a, t, B, C, rfl, rfl, h1.grow g fun a ha => e a (List.mem_append_left _ ha), StoR.grow g (fun a ha => e a (List.mem_append_right _ ha)) h2⟩
theorem StoR.len : ∀ {S : Sto} {m : List Addr} {A : List Addr}, StoR K T W H S m A → m.length = S.length
  | [], _, _, h => by obtain ⟨rfl, _⟩ := h; rfl
  | o :: S, m, A, h => by
    obtain ⟨a, t, B, C, rfl, rfl, h1, h2⟩ := h
    simp [StoR.len h2]
/-- one thing of the store, and how it is exchanged -/
theorem StoR.at : ∀ {S : Sto} {m : List Addr} {A : List Addr} {l : Nat} {o : PO}, StoR K T W H S m A → S[l]? = some o →
    ∃ a B C D, m[l]? = some a ∧ A = B ++ (C ++ D) ∧ PoR K T W H o a C ∧
      ∀ W' H' o' C', Grow W H W' H' → (∀ b ∈ B ++ D, H' b = H b) → PoR K T W' H' o' a C' → StoR K T W' H' (S.set l o') m (B ++ (C' ++ D))
  | [], _, _, _, _, _, e => by simp at e
  | p :: S, m, A, 0, o, h, e => by
    obtain ⟨a, t, B, C, rfl, rfl, h1, h2⟩ := h
    simp at e
    subst e
    refine ⟨a, [], B, C, rfl, rfl, h1, fun W' H' o' C' g k h' => ?_⟩
    exact ⟨a, t, C', C, rfl, rfl, h', h2.grow g fun b hb => k b (by simp [hb])⟩
  | p :: S, m, A, l + 1, o, h, e => by
    obtain ⟨a, t, B, C, rfl, rfl, h1, h2⟩ := h
    obtain ⟨b, B1, C1, D1, e1, rfl, h3, h4⟩ := StoR.at (l := l) (o := o) h2 (by simpa using e)
    refine ⟨b, B ++ B1, C1, D1, by simpa using e1, by simp, h3, fun W' H' o' C' g k h' => ?_⟩
    exact ⟨a, t, B, B1 ++ (C' ++ D1), rfl, by simp, h1.grow g fun x hx => k x (by simp [hx]), h4 W' H' o' C' g (fun x hx => k x (by simp at hx ⊢; rcases hx with z | z <;> simp [z])) h'⟩
theorem StoR.push : ∀ {S : Sto} {m : List Addr} {A : List Addr} {o : PO} {a : Addr} {C : List Addr}, StoR K T W H S m A → PoR K T W H o a C → StoR K T W H (S ++ [o]) (m ++ [a]) (A ++ C)
  | [], _, _, o, a, C, h, q => by
    obtain ⟨rfl, rfl⟩ := h
    exact ⟨a, [], C, [], rfl, by simp, q, rfl, rfl⟩
  | p :: S, m, A, o, a, C, h, q => by
    obtain ⟨b, t, B, D, rfl, rfl, h1, h2⟩ := h
    exact ⟨b, t ++ [a], B, D ++ C, rfl, by simp, h1, StoR.push h2 q⟩
/-- the state as it stands, behind a growth that leaves all owned alone -/
theorem Ok.grow {S : Sto} {F : List Addr} (h : Ok K T W H S F) (g : Grow W H W' H') (em : W'.m = W.m) (e : ∀ a o, H a = some o → ¬ W.sh a → H' a = H a) (ns : ∀ a o, H a = some o → W'.sh a → W.sh a) (shd : ∀ a, W'.sh a → ∃ o, H' a = some o) : Ok K T W' H' S F := by
  obtain ⟨A, h1, h2, h3⟩ := h.st
  refine ⟨⟨A, ?_, h2, fun a ha => ?_⟩, shd⟩
  · rw [em]
    exact h1.grow g fun a ha => by
      obtain ⟨⟨o, q, _⟩, n⟩ := h3 a (List.mem_append_right _ ha)
      exact e a o q n
  · obtain ⟨⟨o, q, nt⟩, n⟩ := h3 a ha
    exact ⟨⟨o, by rw [e a o q n]; exact q, nt⟩, fun z => n (ns a o q z)⟩
end
end SR

set_option maxRecDepth 100000
/-! The evaluator's readings of expressions. -/
namespace SR
open PySem (Addr Str Value)
open L2 (V Hp HO Key upd Rd SqL SqT)
abbrev WXn := Nat → L2.St → Hp → Prop
section
variable (K : PySem.W.Frag) (T : Tb)
/-- how a value is held -/
def Held (W : Wd) (H : Hp) (F : List Addr) (m : Md) (v : PV) (x : V) : Prop := match m with
  | .sh => RepV K W H v x
  | .own => ∃ a, x = .ref a ∧ OwnR K W H v a
  | .bor => ∃ a, x = .ref a ∧ ((OwnR K W H v a ∧ a ∈ F) ∨ ∃ xs vs, v = .tup xs ∧ WrT K a vs ∧ RepVs K W H xs vs)
  | .brf => ∃ a, x = .ref a ∧ OwnR K W H v a
def ownA : Md → V → List Addr
  | .own, .ref a => [a]
  | _, _ => []
/-- what is left alone: F; all, where s is true -/
def Fr (H H' : Hp) (F : List Addr) (s : Bool) : Prop := ∀ a o, H a = some o → (a ∈ F ∨ s = true) → H' a = some o
/-- where an expression begins -/
structure At (W : Wd) (S : Sto) (r : Env) (A F : List Addr) (σ : L2.St) (H : Hp) : Prop where
  sl : SlsR K W H r σ A
  sub : ∀ a ∈ A, a ∈ F
  ok : Ok K T W H S F
/-- the readings -/
def KE (W : Wd) (H : Hp) (F : List Addr) (s : Bool) (WX : WXn) (σ : L2.St) (Q : L2.VK) : Res → Prop
  | .ok v m S' => ∀ W' H' x, Grow W H W' H' → Fr H H' F s → Held K W' H' F m v x → Ok K T W' H' S' (ownA m x ++ F) → Q x H'
  | .exc c S' => ∀ W' H', Grow W H W' H' → Fr H H' F s → Ok K T W' H' S' F → WX c σ H'
  | .bad => False
def TIe (WX : WXn) (s : Bool) (ev : Env → Sto → Res) : L2.TE := fun σ H Q => ∃ W S r A F, At K T W S r A F σ H ∧ KE K T W H F s WX σ Q (ev r S)
end
section
variable {K : PySem.W.Frag} {T : Tb} {W W' : Wd} {H H' : Hp}
theorem Fr.refl (H : Hp) (F : List Addr) (s : Bool) : Fr H H F s := fun _ _ h _ => h
theorem Fr.trans {H H1 H2 : Hp} {F B : List Addr} {s s1 s2 : Bool} (a : Fr H H1 F s1) (b : Fr H1 H2 (B ++ F) s2) (h1 : s = true → s1 = true) (h2 : s = true → s2 = true) : Fr H H2 F s := fun x o e h => b x o (a x o e (h.imp id h1)) (h.imp (List.mem_append_right _) h2)
theorem Ok.perm {S : Sto} {F F' : List Addr} (h : Ok K T W H S F) (p : F.Perm F') : Ok K T W H S F' := by
  obtain ⟨A, h1, h2, h3⟩ := h.st
  refine ⟨⟨A, h1, (p.append_right A).nodup_iff.mp h2, fun a ha => h3 a ?_⟩, h.shd⟩
  exact (p.append_right A).mem_iff.mpr ha
theorem Ok.drop {S : Sto} {B F : List Addr} (h : Ok K T W H S (B ++ F)) : Ok K T W H S F := by
  obtain ⟨A, h1, h2, h3⟩ := h.st
  rw [List.append_assoc] at h2
  exact ⟨⟨A, h1, (List.nodup_append.mp h2).2.1, fun a ha => h3 a (by simp at ha ⊢; exact .inr ha)⟩, h.shd⟩
theorem Ok.ownd {S : Sto} {F : List Addr} (h : Ok K T W H S F) {a : Addr} (ha : a ∈ F) : (∃ o, H a = some o) ∧ ¬ W.sh a := by
  obtain ⟨A, _, _, h3⟩ := h.st
  obtain ⟨⟨o, e, _⟩, n⟩ := h3 a (List.mem_append_left _ ha)
  exact ⟨⟨o, e⟩, n⟩
/-- a tuple may be shared: none that is owned is one -/
theorem Ok.tupS {S : Sto} {F : List Addr} (h : Ok K T W H S F) {p : Addr} {xs : List V} (e : H p = some (.tup xs)) : Ok K T ⟨W.m, fun a => W.sh a ∨ a = p⟩ H S F ∧ Grow W H ⟨W.m, fun a => W.sh a ∨ a = p⟩ H := by
  have gr : Grow W H ⟨W.m, fun a => W.sh a ∨ a = p⟩ H := ⟨⟨[], (List.append_nil _).symm⟩, fun _ h => .inl h, fun _ _ _ _ h => h, fun _ _ _ h => h, fun _ _ _ _ h => h⟩
  obtain ⟨A, h1, h2, h3⟩ := h.st
  refine ⟨⟨⟨A, h1.grow gr fun _ _ => rfl, h2, fun a ha => ?_⟩, fun a z => ?_⟩, gr⟩
  · obtain ⟨⟨o, q, nt⟩, n⟩ := h3 a ha
    refine ⟨⟨o, q, nt⟩, fun z => z.elim n fun z => ?_⟩
    subst z
    rw [e] at q
    cases q
    exact nt
  · rcases z with z | z
    · exact h.shd a z
    · subst z
      exact ⟨_, e⟩
theorem At.next {W1 : Wd} {H1 : Hp} {S S1 : Sto} {r : Env} {A F B : List Addr} {σ : L2.St} {s : Bool} (h : At K T W S r A F σ H) (g : Grow W H W1 H1) (f : Fr H H1 F s) (ok : Ok K T W1 H1 S1 (B ++ F)) : At K T W1 S1 r A (B ++ F) σ H1 := by
  refine ⟨h.sl.grow g fun a ha => ?_, fun a ha => List.mem_append_right _ (h.sub a ha), ok⟩
  obtain ⟨⟨o, e⟩, _⟩ := h.ok.ownd (h.sub a ha)
  rw [e, f a o e (.inl (h.sub a ha))]
/-- held on, past another part -/
theorem Held.next {W1 W2 : Wd} {H1 H2 : Hp} {F F' : List Addr} {m : Md} {v : PV} {x : V} {s : Bool} {S : Sto} (h : Held K W1 H1 F m v x) (ok : Ok K T W1 H1 S (ownA m x ++ F)) (g : Grow W1 H1 W2 H2) (f : Fr H1 H2 (ownA m x ++ F) s) (hm : m.ok s = true) (hF : ∀ a ∈ F, a ∈ F') : Held K W2 H2 F' m v x := by
  cases m with
  | sh => exact RepV.grow g _ _ h
  | own =>
    obtain ⟨a, rfl, q⟩ := h
    obtain ⟨o, e⟩ := q.some
    exact ⟨a, rfl, q.grow g (by rw [e, f a o e (.inl (by simp [ownA]))])⟩
  | bor =>
    obtain ⟨a, rfl, q | ⟨xs, vs, e, w, q⟩⟩ := h
    · obtain ⟨q, ha⟩ := q
      obtain ⟨o, e⟩ := q.some
      exact ⟨a, rfl, .inl ⟨q.grow g (by rw [e, f a o e (.inl (by simp [ownA, ha]))]), hF a ha⟩⟩
    · exact ⟨a, rfl, .inr ⟨xs, vs, e, w, q.grow g _ _⟩⟩
  | brf =>
    obtain ⟨a, rfl, q⟩ := h
    obtain ⟨o, e⟩ := q.some
    exact ⟨a, rfl, q.grow g (by rw [e, f a o e (.inr hm)])⟩
/-- x may be read as u -/
def Vw (K : PySem.W.Frag) (W : Wd) (H : Hp) : PV → V → Prop
  | .lst xs, x => ∃ a vs, x = .ref a ∧ Rd H a (.lst vs) ∧ RepVs K W H xs vs
  | .tup xs, x => ∃ a vs, x = .ref a ∧ SqT K H a vs ∧ RepVs K W H xs vs
  | .dct kvs, x => ∃ a, x = .ref a ∧ ((∃ ks, Rd H a (.dK ks) ∧ RepK K W H kvs ks) ∨ (∃ ks, Rd H a (.dT ks) ∧ RepT K W H kvs ks))
  | u, x => RepV K W H u x
theorem RepV.vw : ∀ {u : PV} {x : V}, RepV K W H u x → Vw K W H u x
  | .lst _, _, h => by
    simp only [RepV] at h
    obtain ⟨a, vs, e, s, r⟩ := h
    exact ⟨a, vs, e, s.2, r⟩
  | .tup _, _, h => by
    simp only [RepV] at h
    obtain ⟨a, vs, e, s, r⟩ := h
    exact ⟨a, vs, e, s.imp (fun z => .inl z.2) (·.1), r⟩
  | .dct _, _, h => by
    simp only [RepV] at h
    obtain ⟨a, e, _, r⟩ := h
    exact ⟨a, e, r⟩
  | .non, _, h => h
  | .bl _, _, h => h
  | .int _, _, h => h
  | .str _, _, h => h
  | .obj _, _, h => h
theorem OwnR.vw : ∀ {u : PV} {a : Addr}, OwnR K W H u a → Vw K W H u (.ref a)
  | .lst _, a, h => by
    obtain ⟨vs, q, r⟩ := h
    exact ⟨a, vs, rfl, .inl q, r⟩
  | .dct _, a, h => ⟨a, rfl, h.imp (fun ⟨ks, q, r⟩ => ⟨ks, .inl q, r⟩) (fun ⟨ks, q, r⟩ => ⟨ks, .inl q, r⟩)⟩
  | .non, _, h => h.elim
  | .bl _, _, h => h.elim
  | .int _, _, h => h.elim
  | .str _, _, h => h.elim
  | .tup _, _, h => h.elim
  | .obj _, _, h => h.elim
/-- a held value may be read as the store shows it -/
theorem Held.vw {S : Sto} {F : List Addr} {m : Md} {v : PV} {x : V} (h : Held K W H F m v x) (ok : ∃ F', Ok K T W H S F') : Vw K W H (view S v) x := by
  have own : ∀ {a}, OwnR K W H v a → x = .ref a → Vw K W H (view S v) x := fun {a} q e => by
    subst e
    cases v with
    | obj l => exact q.elim
    | _ => exact q.vw
  cases m with
  | sh =>
    have h : RepV K W H v x := h
    cases v with
    | obj l =>
      simp only [RepV] at h
      obtain ⟨a, e, rfl⟩ := h
      have self : Vw K W H (.obj l) (.ref a) := show RepV K W H (.obj l) (.ref a) by
        simp only [RepV]
        exact ⟨a, e, rfl⟩
      cases e1 : S[l]? with
      | none => simp only [view, e1]; exact self
      | some o =>
        obtain ⟨F', ok⟩ := ok
        obtain ⟨A, st, _⟩ := ok.st
        obtain ⟨b, B, C, D, e2, _, p, _⟩ := st.at e1
        rw [e] at e2
        cases e2
        cases o with
        | ins c fs => simp only [view, e1]; exact self
        | box u => simp only [view, e1]; exact p.2.vw
        | fz u => simp only [view, e1]; exact p.2.vw
    | _ => exact h.vw
  | own => obtain ⟨a, e, q⟩ := h; exact own q e
  | bor =>
    obtain ⟨a, e, q | ⟨xs, vs, rfl, w, q⟩⟩ := h
    · exact own q.1 e
    · exact ⟨a, vs, e, .inr w, q⟩
  | brf => obtain ⟨a, e, q⟩ := h; exact own q e
end
/-- weaken a reading -/
theorem pe_imp {X : L2.Cx} {e : PySem.Expr} {t t' : L2.TE} (h : L2.PE X e t) (i : ∀ σ H Q, t' σ H Q → t σ H Q) : L2.PE X e t' := ⟨fun pins s σ H Q I q => h.run pins s σ H Q I (i σ H Q q)⟩

/-! ### parts in a row -/
section
variable {K : PySem.W.Frag} {T : Tb} {WX : WXn}
/-- what is asked of two values: f makes of them what comes -/
def RC2 (K : PySem.W.Frag) (T : Tb) (f : Sto → PV → Md → PV → Md → Option (PV × Md)) : L2.R2 := fun x y H Q => ∃ W S F v1 m1 v2 m2 v m,
  Held K W H F m1 v1 x ∧ Held K W H F m2 v2 y ∧ Ok K T W H S F ∧ f S v1 m1 v2 m2 = some (v, m) ∧ m.fin = true ∧
    ∀ W' H' z, Grow W H W' H' → Fr H H' F true → Held K W' H' F m v z → Ok K T W' H' S (ownA m z ++ F) → Q z H'
theorem ofO_ok {S : Sto} {o : Option (PV × Md)} (P : Res → Prop) (hb : ¬ P .bad) (h : P (ofO S o)) : ∃ v m, o = some (v, m) ∧ m.fin = true ∧ P (.ok v m S) := by
  cases o with
  | none => exact absurd h hb
  | some p =>
    obtain ⟨v, m⟩ := p
    cases m with
    | sh => exact ⟨v, _, rfl, rfl, h⟩
    | own => exact ⟨v, _, rfl, rfl, h⟩
    | bor => exact absurd h hb
    | brf => exact absurd h hb
theorem Held.fin {W : Wd} {H : Hp} {F F' : List Addr} {m : Md} {v : PV} {x : V} (h : Held K W H F m v x) (hm : m.fin = true) : Held K W H F' m v x := by
  cases m with
  | sh => exact h
  | own => exact h
  | bor => cases hm
  | brf => cases hm
theorem Ok.mid {W : Wd} {H : Hp} {S : Sto} {A B F : List Addr} (h : Ok K T W H S (A ++ (B ++ F))) : Ok K T W H S (A ++ F) := by
  refine Ok.drop (B := B) (h.perm ?_)
  rw [← List.append_assoc, ← List.append_assoc]
  exact (List.perm_append_comm).append_right F
theorem two {s s1 s2 : Bool} {e1 e2 : Env → Sto → Res} {f : Sto → PV → Md → PV → Md → Option (PV × Md)} (h1 : s = true → s1 = true) (h2 : s = true → s2 = true) (σ : L2.St) (H : Hp) (Q : L2.VK)
    (h : TIe K T WX s (fun r S => (e1 r S).bindK s2 fun x m S1 => (e2 r S1).bind fun y n S2 => ofO S2 (f S2 x m y n)) σ H Q) :
    TIe K T WX s1 e1 σ H fun x H1 => TIe K T WX s2 e2 σ H1 fun y H2 => RC2 K T f x y H2 Q := by
  obtain ⟨W, S, r, A, F, at0, q⟩ := h
  refine ⟨W, S, r, A, F, at0, ?_⟩
  simp only at q
  cases c1 : e1 r S with
  | bad => rw [c1] at q; exact q.elim
  | exc c S' =>
    rw [c1] at q
    intro W' H' g f' ok
    exact q W' H' g (fun a o e hh => f' a o e (hh.imp id h1)) ok
  | ok x m S1 =>
    rw [c1] at q
    simp only [Res.bindK_ok] at q
    intro W1 H1 u g1 f1 hx ok1
    have hm : m.ok s2 = true := by
      cases hm : m.ok s2 with
      | true => rfl
      | false => rw [hm] at q; exact q.elim
    rw [if_pos hm] at q
    refine ⟨W1, S1, r, A, ownA m u ++ F, at0.next g1 f1 ok1, ?_⟩
    cases c2 : e2 r S1 with
    | bad => rw [c2] at q; exact q.elim
    | exc c S' =>
      rw [c2] at q
      intro W' H' g f' ok
      exact q W' H' (g1.trans g) (f1.trans f' h1 h2) ok.drop
    | ok y n S2 =>
      rw [c2] at q
      simp only [Res.bind_ok] at q
      intro W2 H2 w g2 f2 hy ok2
      obtain ⟨v, m', e, hf, q⟩ := ofO_ok (KE K T W H F s WX σ Q) (fun z => z) q
      refine ⟨W2, S2, ownA n w ++ (ownA m u ++ F), x, m, y, n, v, m', ?_, ?_, ok2, e, hf, ?_⟩
      · exact hx.next ok1 g2 f2 hm fun a ha => by simp [ha]
      · cases n with
        | bor =>
          obtain ⟨a, e, z⟩ := hy
          exact ⟨a, e, z.imp (fun z => ⟨z.1, by simp [ownA]; simp at z; exact z.2⟩) id⟩
        | _ => exact hy
      · intro W' H' z g3 f3 hz ok3
        refine q W' H' z ((g1.trans g2).trans g3) (fun a o e hh => ?_) ?_ ?_
        · refine f3 a o (f2 a o (f1 a o e (hh.imp id h1)) (hh.imp (fun z => by simp [z]) h2)) (.inr rfl)
        · exact hz.fin hf
        · exact ok3.mid.mid
end
end SR

set_option maxRecDepth 100000
/-! Operators by values. -/
namespace SR
open PySem (Addr Str Value)
open L2 (V Hp HO Key upd Rd SqL SqT)
def Wd.add (W : Wd) (p : Addr) : Wd := ⟨W.m, fun a => W.sh a ∨ a = p⟩
section
variable {K : PySem.W.Frag} {T : Tb} {W : Wd} {H : Hp} {S : Sto} {F : List Addr} {Q : L2.VK} {p : Addr}
theorem rd_upd {a p : Addr} {u o : HO} (np : H p = none) (r : Rd H a u) : Rd (upd H p o) a u := by
  rcases r with r | ⟨o', r⟩
  · exact .inl (by rw [L2.upd_ne (L2.ne_of_none r np)]; exact r)
  · exact .inr ⟨o', by rw [L2.upd_ne (L2.ne_of_none r np)]; exact r⟩
/-- a new thing is laid: nothing else changes -/
theorem Grow.laid {o : HO} (np : H p = none) : Grow W H W (upd H p o) :=
  ⟨⟨[], (List.append_nil _).symm⟩, fun _ h => h, fun _ _ _ _ r => rd_upd np r, fun a xs _ e => by rw [L2.upd_ne (L2.ne_of_none e np)]; exact e, fun a o u _ e => by rw [L2.upd_ne (L2.ne_of_none e np)]; exact e⟩
theorem Grow.laidS {o : HO} (np : H p = none) : Grow W H (W.add p) (upd H p o) :=
  ⟨⟨[], (List.append_nil _).symm⟩, fun _ h => .inl h, fun _ _ _ _ r => rd_upd np r, fun a xs _ e => by rw [L2.upd_ne (L2.ne_of_none e np)]; exact e, fun a o u _ e => by rw [L2.upd_ne (L2.ne_of_none e np)]; exact e⟩
theorem Fr.laid {o : HO} {s : Bool} (np : H p = none) : Fr H (upd H p o) F s := fun a u e _ => by rw [L2.upd_ne (L2.ne_of_none e np)]; exact e
theorem Ok.laidS {o : HO} (ok : Ok K T W H S F) (np : H p = none) : Ok K T (W.add p) (upd H p o) S F := by
  refine ok.grow (Grow.laidS np) rfl (fun a u e _ => by rw [L2.upd_ne (L2.ne_of_none e np)]) (fun a u e h => ?_) fun a h => ?_
  · rcases h with h | h
    · exact h
    · subst h; rw [np] at e; cases e
  · rcases h with h | h
    · obtain ⟨u, e⟩ := ok.shd a h
      exact ⟨u, by rw [L2.upd_ne (L2.ne_of_none e np)]; exact e⟩
    · subst h; exact ⟨_, L2.upd_same⟩
theorem Ok.laid {o : HO} (ok : Ok K T W H S F) (np : H p = none) (nt : nT o := by trivial) : Ok K T W (upd H p o) S (p :: F) := by
  have g := ok.grow (W' := W) (H' := upd H p o) (Grow.laid np) rfl (fun a u e _ => by rw [L2.upd_ne (L2.ne_of_none e np)]) (fun _ _ _ h => h) fun a h => by
    obtain ⟨u, e⟩ := ok.shd a h
    exact ⟨u, by rw [L2.upd_ne (L2.ne_of_none e np)]; exact e⟩
  obtain ⟨A, h1, h2, h3⟩ := g.st
  have nsh : ¬ W.sh p := fun z => by
    obtain ⟨u, e⟩ := ok.shd p z
    rw [np] at e; cases e
  obtain ⟨A', k1, k2, k3⟩ := ok.st
  refine ⟨⟨A', k1.grow (Grow.laid np) fun a ha => ?_, ?_, fun a ha => ?_⟩, g.shd⟩
  · obtain ⟨⟨u, e, _⟩, _⟩ := k3 a (List.mem_append_right _ ha)
    rw [L2.upd_ne (L2.ne_of_none e np)]
  · refine List.nodup_cons.mpr ⟨fun z => ?_, k2⟩
    obtain ⟨⟨u, e, _⟩, _⟩ := k3 p z
    rw [np] at e; cases e
  · rcases List.mem_cons.mp ha with rfl | ha
    · exact ⟨⟨_, L2.upd_same, nt⟩, nsh⟩
    · obtain ⟨⟨u, e, nt⟩, n⟩ := k3 a ha
      exact ⟨⟨u, by rw [L2.upd_ne (L2.ne_of_none e np)]; exact e, nt⟩, n⟩
/-- what is asked behind: f's value v, held as m -/
abbrev Aft (K : PySem.W.Frag) (T : Tb) (W : Wd) (H : Hp) (S : Sto) (F : List Addr) (v : PV) (m : Md) (Q : L2.VK) : Prop :=
  ∀ W' H' z, Grow W H W' H' → Fr H H' F true → Held K W' H' F m v z → Ok K T W' H' S (ownA m z ++ F) → Q z H'
theorem fin_same {v : PV} {x : V} (ok : Ok K T W H S F) (r : RepV K W H v x) (q : Aft K T W H S F v .sh Q) : Q x H := q W H x (Grow.refl _ _) (Fr.refl _ _ _) r ok
theorem fin_int {i : Int} (ok : Ok K T W H S F) (q : Aft K T W H S F (.int i) .sh Q) : Q (.int i) H := fin_same ok (by simp only [RepV]) q
theorem fin_bl {i : Bool} (ok : Ok K T W H S F) (q : Aft K T W H S F (.bl i) .sh Q) : Q (.bl i) H := fin_same ok (by simp only [RepV]) q
theorem fin_str {x : List Nat} (ok : Ok K T W H S F) (ha : ascii x) (q : Aft K T W H S F (.str x) .sh Q) : Q (.str (txt x)) H := fin_same ok (by simp only [RepV]; exact ⟨trivial, ha⟩) q
theorem fin_tup {xs : List PV} {vs : List V} (ok : Ok K T W H S F) (np : H p = none) (r : RepVs K W H xs vs) (q : Aft K T W H S F (.tup xs) .sh Q) : Q (.ref p) (upd H p (.tup vs)) := by
  refine q (W.add p) _ _ (Grow.laidS np) (Fr.laid np) ?_ (ok.laidS np)
  show RepV K _ _ (.tup xs) (.ref p)
  simp only [RepV]
  exact ⟨p, vs, rfl, .inl ⟨.inr rfl, L2.upd_same⟩, r.grow (Grow.laidS np) _ _⟩
theorem fin_lst {xs : List PV} {vs : List V} (ok : Ok K T W H S F) (np : H p = none) (r : RepVs K W H xs vs) (q : Aft K T W H S F (.lst xs) .own Q) : Q (.ref p) (upd H p (.lst vs)) :=
  q W _ _ (Grow.laid np) (Fr.laid np) ⟨p, rfl, vs, L2.upd_same, r.grow (Grow.laid np) _ _⟩ (ok.laid np)
/-- a tuple that is seen is one -/
theorem tup_view {v : PV} {x : V} {xs : List PV} (ok : Ok K T W H S F) (h : RepV K W H v x) (e : view S v = .tup xs) : RepV K W H (.tup xs) x := by
  cases v with
  | obj l =>
    simp only [RepV] at h
    obtain ⟨a, e0, rfl⟩ := h
    cases e1 : S[l]? with
    | none => simp only [view, e1] at e; cases e
    | some o =>
      obtain ⟨A, st, _⟩ := ok.st
      obtain ⟨b, B, C, D, e2, _, p, _⟩ := st.at e1
      rw [e0] at e2
      cases e2
      cases o with
      | ins c fs => simp only [view, e1] at e; cases e
      | box u =>
        simp only [view, e1] at e
        subst e
        exact p.2.elim
      | fz u =>
        simp only [view, e1] at e
        subst e
        exact p.2
  | tup ys => cases e; exact h
  | _ => cases e
theorem RepVs.append : ∀ {xs ys : List PV} {vs ws : List V}, RepVs K W H xs vs → RepVs K W H ys ws → RepVs K W H (xs ++ ys) (vs ++ ws)
  | [], _, _, _, h, h' => by
    simp only [RepVs] at h
    subst h
    exact h'
  | x :: xs, ys, vs, ws, h, h' => by
    simp only [RepVs] at h
    obtain ⟨v, r, rfl, h1, h2⟩ := h
    simp only [List.cons_append, RepVs]
    exact ⟨v, r ++ ws, rfl, h1, RepVs.append h2 h'⟩
theorem RepVs.len : ∀ {xs : List PV} {vs : List V}, RepVs K W H xs vs → vs.length = xs.length
  | [], _, h => by
    simp only [RepVs] at h
    subst h
    rfl
  | x :: xs, vs, h => by
    simp only [RepVs] at h
    obtain ⟨v, r, rfl, h1, h2⟩ := h
    simp [RepVs.len h2]
theorem RepVs.get : ∀ {xs : List PV} {vs : List V} {i : Nat} {x : PV}, RepVs K W H xs vs → xs[i]? = some x → ∃ v, vs[i]? = some v ∧ RepV K W H x v
  | [], _, _, _, _, e => by simp at e
  | y :: xs, vs, 0, x, h, e => by
    simp only [RepVs] at h
    obtain ⟨v, r, rfl, h1, h2⟩ := h
    simp at e
    subst e
    exact ⟨v, rfl, h1⟩
  | y :: xs, vs, i + 1, x, h, e => by
    simp only [RepVs] at h
    obtain ⟨v, r, rfl, h1, h2⟩ := h
    obtain ⟨w, e1, q⟩ := RepVs.get (i := i) h2 (by simpa using e)
    exact ⟨w, by simpa using e1, q⟩
theorem RepVs.nil_iff {xs : List PV} {vs : List V} (h : RepVs K W H xs vs) : vs = [] ↔ xs = [] := by
  have e := h.len
  cases xs <;> cases vs <;> simp at e ⊢
theorem RepVs.drop : ∀ {xs : List PV} {vs : List V} (n : Nat), RepVs K W H xs vs → RepVs K W H (xs.drop n) (vs.drop n)
  | _, _, 0, h => h
  | [], vs, n + 1, h => by
    simp only [RepVs] at h
    subst h
    simp [RepVs]
  | x :: xs, vs, n + 1, h => by
    simp only [RepVs] at h
    obtain ⟨v, r, rfl, h1, h2⟩ := h
    exact RepVs.drop n h2
theorem RepVs.take : ∀ {xs : List PV} {vs : List V} (n : Nat), RepVs K W H xs vs → RepVs K W H (xs.take n) (vs.take n)
  | _, _, 0, h => by simp [RepVs]
  | [], vs, n + 1, h => by
    simp only [RepVs] at h
    subst h
    simp [RepVs]
  | x :: xs, vs, n + 1, h => by
    simp only [RepVs] at h
    obtain ⟨v, r, rfl, h1, h2⟩ := h
    simp only [List.take_succ_cons, RepVs]
    exact ⟨v, _, rfl, h1, RepVs.take n h2⟩
end
theorem lim_size {n : Nat} (h : n ≤ lim) : n ≤ PySem.sizeLine := Nat.le_trans h (by decide)
theorem txt_append (x y : List Nat) : txt x ++ txt y = txt (x ++ y) := by
  show (⟨(txt x).cps ++ (txt y).cps⟩ : Str) = _
  simp [txt]
theorem txt_length (x : List Nat) : (txt x).length = x.length := by
  show (txt x).cps.size = _
  simp [txt]
theorem ascii_append {x y : List Nat} (h : ascii x) (h' : ascii y) : ascii (x ++ y) := fun c hc => (List.mem_append.mp hc).elim (h c) (h' c)
section
variable {X : L2.Cx} {T : Tb}
theorem lst_at {pins : List (Addr × PySem.Obj)} {σ : L2.St} {H : Hp} {s : PySem.Shared} {a : Addr} {xs : List V} (I : L2.Inv X pins σ H s) (h : Rd H a (.lst xs)) :
    xs.length ≤ PySem.sizeLine ∧ ∃ (its : List Value) (n : Nat), L2.Vals xs its ∧ s.heap.get? a = some { cls := .type "list", data := .seq its.toArray n } := h.ok I.hok
/-- list + list, the one or the other perhaps locked -/
theorem op_catL : L2.OpR X (PySem.binaryOp .Add) (fun x y H Q => ∃ l b xs zs, x = .ref l ∧ y = .ref b ∧ Rd H l (.lst xs) ∧ Rd H b (.lst zs) ∧ xs.length + zs.length ≤ PySem.sizeLine ∧ ∀ p, H p = none → Q (.ref p) (upd H p (.lst (xs ++ zs)))) := by
  intro pins s σ H x y v u Q I rx ry h
  obtain ⟨l, b, xs, zs, rfl, rfl, hH, hB, hz, q⟩ := h
  cases rx
  cases ry
  obtain ⟨z, its, n, r, e⟩ := lst_at I hH
  obtain ⟨z2, its2, n2, r2, e2⟩ := lst_at I hB
  have hl := r.length
  have hl2 := r2.length
  refine PySem.P.add_list e e2 ?_ (by rw [List.size_toArray, List.size_toArray]; omega)
  have ea : its.toArray ++ its2.toArray = (its ++ its2).toArray := by simp
  rw [ea]
  exact ⟨.ref _, _, I.lnew (t' := s.toks) (r.append r2) (by rw [List.length_append]; omega), rfl, q _ I.fresh⟩
theorem o_add : L2.OpR X (PySem.binaryOp .Add) (RC2 X.K T fun S x m y n => op2 .add (m.isSh && n.isSh) (view S x) (view S y)) := by
  intro pins s σ H x y xv yv Q I rx ry ⟨W, S, F, v1, m1, v2, m2, v, m, h1, h2, ok, e, hf, q⟩
  have w1 := h1.vw ⟨F, ok⟩
  have w2 := h2.vw ⟨F, ok⟩
  dsimp only at e
  have t1' : (m1.isSh && m2.isSh) = true → RepV X.K W H v1 x ∧ RepV X.K W H v2 y := fun z => by
    cases m1 <;> cases m2 <;> first | exact ⟨h1, h2⟩ | cases z
  generalize e1 : view S v1 = a at *
  generalize e2 : view S v2 = b at *
  generalize (m1.isSh && m2.isSh) = k at *
  unfold op2 at e
  split at e
  all_goals try cases ‹BOp.add = _›
  · cases e
    simp only [Vw, RepV] at w1 w2
    subst w1 w2
    exact L2.op_add pins s σ H _ _ _ _ Q I rx ry ⟨_, _, rfl, rfl, fin_int ok q⟩
  · split at e
    · cases e
      simp only [Vw, RepV] at w1 w2
      obtain ⟨rfl, a1⟩ := w1
      obtain ⟨rfl, a2⟩ := w2
      rename_i hl
      refine L2.op_add_str pins s σ H _ _ _ _ Q I rx ry ⟨_, _, rfl, rfl, by rw [txt_length, txt_length]; exact lim_size hl, ?_⟩
      rw [txt_append]
      exact fin_str ok (ascii_append a1 a2) q
    · cases e
  · split at e
    · cases e
      obtain ⟨a1, vs1, rfl, t1, r1⟩ := w1
      obtain ⟨a2, vs2, rfl, t2, r2⟩ := w2
      rename_i hl
      obtain ⟨h1, h2⟩ := t1' rfl
      have g1 := tup_view ok h1 e1
      have g2 := tup_view ok h2 e2
      refine L2.op_catA pins s σ H _ _ _ _ Q I rx ry ⟨a1, a2, vs1, vs2, rfl, rfl, t1, t2, by rw [r1.len, r2.len]; exact lim_size hl, fun z => ?_, fun z z' => ?_, fun _ _ p np => fin_tup ok np (r1.append r2) q⟩
      · rw [r1.nil_iff.mp z] at q
        exact fin_same ok g2 q
      · rw [r2.nil_iff.mp z', List.append_nil] at q
        exact fin_same ok g1 q
    · cases e
  · split at e
    · cases e
      obtain ⟨a1, vs1, rfl, t1, r1⟩ := w1
      obtain ⟨a2, vs2, rfl, t2, r2⟩ := w2
      rename_i hl
      exact op_catL pins s σ H _ _ _ _ Q I rx ry ⟨_, _, _, _, rfl, rfl, t1, t2, by rw [r1.len, r2.len]; exact lim_size hl, fun p np => fin_lst ok np (r1.append r2) q⟩
    · cases e
  · cases e
end
end SR

set_option maxRecDepth 100000
/-! More operators by values: numbers, ==, in, items, slices. -/
namespace SR
open PySem (Addr Str Value PyData)
open L2 (V Hp HO Key upd Rd SqL SqT)
section
variable {X : L2.Cx} {T : Tb}
theorem o_sub : L2.OpR X (PySem.binaryOp .Sub) (RC2 X.K T fun S x m y n => op2 .sub (m.isSh && n.isSh) (view S x) (view S y)) := by
  intro pins s σ H x y xv yv Q I rx ry ⟨W, S, F, v1, m1, v2, m2, v, m, h1, h2, ok, e, hf, q⟩
  have w1 := h1.vw ⟨F, ok⟩
  have w2 := h2.vw ⟨F, ok⟩
  dsimp only at e
  generalize view S v1 = a at *
  generalize view S v2 = b at *
  unfold op2 at e
  split at e
  all_goals try cases ‹BOp.sub = _›
  · cases e
    simp only [Vw, RepV] at w1 w2
    subst w1 w2
    exact L2.op_sub pins s σ H _ _ _ _ Q I rx ry ⟨_, _, rfl, rfl, fin_int ok q⟩
  · cases e
theorem reps_rep {K : PySem.W.Frag} {W : Wd} {H : Hp} {xs : List PV} {vs : List V} (h : RepVs K W H xs vs) : ∀ n : Nat, RepVs K W H (List.replicate n xs).flatten (List.replicate n vs).flatten
  | 0 => by simp only [List.replicate, List.flatten_nil, RepVs]
  | n + 1 => by
    rw [List.replicate_succ, List.replicate_succ, List.flatten_cons, List.flatten_cons]
    exact h.append (reps_rep h n)
theorem o_mul : L2.OpR X (PySem.binaryOp .Mult) (RC2 X.K T fun S x m y n => op2 .mul (m.isSh && n.isSh) (view S x) (view S y)) := by
  intro pins s σ H x y xv yv Q I rx ry ⟨W, S, F, v1, m1, v2, m2, v, m, h1, h2, ok, e, hf, q⟩
  have w1 := h1.vw ⟨F, ok⟩
  have w2 := h2.vw ⟨F, ok⟩
  dsimp only at e
  have own : ∀ {ys : List PV} {n : Int}, (m1.isSh && m2.isSh) = false → view S v1 = .lst ys → view S v2 = .int n → ∃ a vs, x = .ref a ∧ H a = some (.lst vs) ∧ RepVs X.K W H ys vs := by
    intro ys n e1 e2 e3
    have i2 : m2 = .sh := by
      cases v2 with
      | obj l =>
        cases m2 with
        | sh => rfl
        | own => obtain ⟨a, _, o⟩ := h2; exact o.elim
        | bor =>
          obtain ⟨a, _, ⟨o, _⟩ | ⟨_, _, z, _⟩⟩ := h2
          · exact o.elim
          · cases z
        | brf => obtain ⟨a, _, o⟩ := h2; exact o.elim
      | int i =>
        cases m2 with
        | sh => rfl
        | own => obtain ⟨a, _, o⟩ := h2; exact o.elim
        | bor =>
          obtain ⟨a, _, ⟨o, _⟩ | ⟨_, _, z, _⟩⟩ := h2
          · exact o.elim
          · cases z
        | brf => obtain ⟨a, _, o⟩ := h2; exact o.elim
      | _ => cases e3
    subst i2
    have oo : ∀ {a}, OwnR X.K W H v1 a → x = .ref a → ∃ a vs, x = .ref a ∧ H a = some (.lst vs) ∧ RepVs X.K W H ys vs := by
      intro a o ex
      cases v1 with
      | lst zs =>
        cases e2
        obtain ⟨vs, h, r⟩ := o
        exact ⟨a, vs, ex, h, r⟩
      | dct _ => cases e2
      | _ => exact o.elim
    cases m1 with
    | sh => cases e1
    | own => obtain ⟨a, ex, o⟩ := h1; exact oo o ex
    | bor =>
      obtain ⟨a, ex, ⟨o, _⟩ | ⟨_, _, z, _⟩⟩ := h1
      · exact oo o ex
      · rw [z] at e2; cases e2
    | brf => obtain ⟨a, ex, o⟩ := h1; exact oo o ex
  generalize view S v1 = a at *
  generalize view S v2 = b at *
  generalize (m1.isSh && m2.isSh) = k at *
  unfold op2 at e
  split at e
  all_goals try cases ‹BOp.mul = _›
  · split at e
    · cases e
      simp only [Vw, RepV] at w1 w2
      subst w1 w2
      rename_i hc
      exact L2.op_mul pins s σ H _ _ _ _ Q I rx ry ⟨_, _, rfl, rfl, hc, fin_int ok q⟩
    · cases e
  · split at e
    · cases e
      rename_i hc
      obtain ⟨l, vs, rfl, t, r⟩ := w1
      simp only [Vw, RepV] at w2
      subst w2
      refine L2.op_repT pins s σ H _ _ _ _ Q I rx ry ⟨l, _, vs, rfl, rfl, t, ?_, hc.1, hc.2.1, by rw [r.len]; exact hc.2.2.1, fun p np => fin_tup ok np (reps_rep r _) q⟩
      intro z
      have := r.len
      rw [z] at this
      have h4 := hc.2.2.2
      rw [← this] at h4
      exact absurd h4 (by decide)
    · cases e
  · split at e
    · cases e
      rename_i hc
      simp only [Vw, RepV] at w2
      subst w2
      obtain ⟨l, vs, rfl, hH, r⟩ := own rfl rfl rfl
      refine L2.op_rep pins s σ H _ _ _ _ Q I rx ry ⟨l, _, vs, rfl, rfl, hH, by omega, by omega, ?_, fun p np => fin_lst ok np (reps_rep r _) q⟩
      rw [r.len]
      refine Nat.le_trans (Nat.mul_le_mul hc.2.2 (show Int.toNat _ ≤ 1000 by omega)) (by decide)
    · cases e
  · cases e
theorem o_pow : L2.OpR X (PySem.binaryOp .Pow) (RC2 X.K T fun S x m y n => op2 .pow (m.isSh && n.isSh) (view S x) (view S y)) := by
  intro pins s σ H x y xv yv Q I rx ry ⟨W, S, F, v1, m1, v2, m2, v, m, h1, h2, ok, e, hf, q⟩
  have w1 := h1.vw ⟨F, ok⟩
  have w2 := h2.vw ⟨F, ok⟩
  dsimp only at e
  generalize view S v1 = a at *
  generalize view S v2 = b at *
  unfold op2 at e
  split at e
  all_goals try cases ‹BOp.pow = _›
  · split at e
    · cases e
      simp only [Vw, RepV] at w1 w2
      subst w1 w2
      rename_i hc
      exact L2.op_pow pins s σ H _ _ _ _ Q I rx ry ⟨_, _, rfl, rfl, ⟨hc.1, by omega, by omega⟩, fin_int ok q⟩
    · cases e
  · cases e
theorem o_fdiv : L2.OpR X (PySem.binaryOp .FloorDiv) (RC2 X.K T fun S x m y n => op2 .fdiv (m.isSh && n.isSh) (view S x) (view S y)) := by
  intro pins s σ H x y xv yv Q I rx ry ⟨W, S, F, v1, m1, v2, m2, v, m, h1, h2, ok, e, hf, q⟩
  have w1 := h1.vw ⟨F, ok⟩
  have w2 := h2.vw ⟨F, ok⟩
  dsimp only at e
  generalize view S v1 = a at *
  generalize view S v2 = b at *
  unfold op2 at e
  split at e
  all_goals try cases ‹BOp.fdiv = _›
  · split at e
    · cases e
      simp only [Vw, RepV] at w1 w2
      subst w1 w2
      rename_i hc
      exact L2.op_fdivN pins s σ H _ _ _ _ Q I rx ry ⟨_, _, rfl, rfl, hc, fin_int ok q⟩
    · cases e
  · cases e
theorem o_mod : L2.OpR X (PySem.binaryOp .Mod) (RC2 X.K T fun S x m y n => op2 .mod (m.isSh && n.isSh) (view S x) (view S y)) := by
  intro pins s σ H x y xv yv Q I rx ry ⟨W, S, F, v1, m1, v2, m2, v, m, h1, h2, ok, e, hf, q⟩
  have w1 := h1.vw ⟨F, ok⟩
  have w2 := h2.vw ⟨F, ok⟩
  dsimp only at e
  generalize view S v1 = a at *
  generalize view S v2 = b at *
  unfold op2 at e
  split at e
  all_goals try cases ‹BOp.mod = _›
  · split at e
    · cases e
      simp only [Vw, RepV] at w1 w2
      subst w1 w2
      rename_i hc
      exact L2.op_modN pins s σ H _ _ _ _ Q I rx ry ⟨_, _, rfl, rfl, hc, fin_int ok q⟩
    · cases e
  · cases e
end

/-! ### data -/
mutual
def toD : PV → PyData
  | .non => .none
  | .bl b => .bool b
  | .int i => .int i
  | .str x => .str (txt x)
  | .tup xs => .tuple (toDs xs)
  | .lst xs => .list (toDs xs)
  | .dct _ => .none
  | .obj _ => .none
def toDs : List PV → List PyData
  | [] => []
  | x :: xs => toD x :: toDs xs
end
theorem txt_ok {x : List Nat} (h : ascii x) : PyData.strOk (txt x) = true := by
  unfold PyData.strOk txt
  simp only [List.all_toArray, List.all_eq_true, decide_eq_true_eq]
  intro c hc
  exact Nat.lt_trans (h c hc) (by decide)
theorem txt_inj {x y : List Nat} : txt x = txt y ↔ x = y := by
  unfold txt
  simp
section
variable {K : PySem.W.Frag} {W : Wd} {H : Hp}
mutual
theorem dp_of : ∀ (x : PV) (v : V), data x = true → RepV K W H x v → L2.Dp K H v (toD x) ∧ (toD x).canLay0 = true
  | .non, v, _, h => by
    simp only [RepV] at h
    subst h
    exact ⟨.non, by simp [toD, PyData.canLay0]⟩
  | .bl b, v, _, h => by
    simp only [RepV] at h
    subst h
    exact ⟨.bl b, by simp [toD, PyData.canLay0]⟩
  | .int i, v, _, h => by
    simp only [RepV] at h
    subst h
    exact ⟨.int i, by simp [toD, PyData.canLay0]⟩
  | .str x, v, _, h => by
    simp only [RepV] at h
    obtain ⟨rfl, a⟩ := h
    exact ⟨.str _, by simp [toD, PyData.canLay0, txt_ok a]⟩
  | .tup xs, v, d, h => by
    simp only [RepV] at h
    obtain ⟨a, vs, rfl, t, r⟩ := h
    obtain ⟨p, q⟩ := dps_of xs vs (by simpa [data] using d) r
    exact ⟨.tup (t.imp (fun z => .inl z.2) (·.1)) p, by simpa [toD, PyData.canLay0] using q⟩
  | .lst xs, v, d, h => by
    simp only [RepV] at h
    obtain ⟨a, vs, rfl, t, r⟩ := h
    obtain ⟨p, q⟩ := dps_of xs vs (by simpa [data] using d) r
    exact ⟨.lst (.inl t.2) p, by simpa [toD, PyData.canLay0] using q⟩
  | .dct _, _, d, _ => by simp [data] at d
  | .obj _, _, d, _ => by simp [data] at d
theorem dps_of : ∀ (x : List PV) (v : List V), datas x = true → RepVs K W H x v → L2.DpAll K H v (toDs x) ∧ PyData.canLayAll0 (toDs x) = true
  | [], v, _, h => by
    simp only [RepVs] at h
    subst h
    exact ⟨.nil, by simp [toDs, PyData.canLayAll0]⟩
  | x :: xs, v, d, h => by
    simp only [RepVs] at h
    obtain ⟨y, r, rfl, h1, h2⟩ := h
    simp only [datas, Bool.and_eq_true] at d
    obtain ⟨p1, q1⟩ := dp_of x y d.1 h1
    obtain ⟨p2, q2⟩ := dps_of xs r d.2 h2
    exact ⟨.cons p1 p2, by simp [toDs, PyData.canLayAll0, q1, q2]⟩
end
theorem dp_vw {x : PV} {v : V} (d : data x = true) (h : Vw K W H x v) : L2.Dp K H v (toD x) ∧ (toD x).canLay0 = true := by
  cases x with
  | lst xs =>
    obtain ⟨a, vs, rfl, t, r⟩ := h
    obtain ⟨p, q⟩ := dps_of xs vs (by simpa [data] using d) r
    exact ⟨.lst (.inl t) p, by simpa [toD, PyData.canLay0] using q⟩
  | tup xs =>
    obtain ⟨a, vs, rfl, t, r⟩ := h
    obtain ⟨p, q⟩ := dps_of xs vs (by simpa [data] using d) r
    exact ⟨.tup t p, by simpa [toD, PyData.canLay0] using q⟩
  | dct _ => simp [data] at d
  | obj _ => simp [data] at d
  | non => exact dp_of (W := W) _ _ d h
  | bl _ => exact dp_of (W := W) _ _ d h
  | int _ => exact dp_of (W := W) _ _ d h
  | str _ => exact dp_of (W := W) _ _ d h
end
mutual
theorem dep_toD : ∀ x : PV, (toD x).depth = dep x
  | .non => by simp [toD, PyData.depth, dep]
  | .bl _ => by simp [toD, PyData.depth, dep]
  | .int _ => by simp [toD, PyData.depth, dep]
  | .str _ => by simp [toD, PyData.depth, dep]
  | .tup xs => by simp [toD, PyData.depth, dep, deps_toD xs]
  | .lst xs => by simp [toD, PyData.depth, dep, deps_toD xs]
  | .dct _ => by simp [toD, PyData.depth, dep]
  | .obj _ => by simp [toD, PyData.depth, dep]
theorem deps_toD : ∀ x : List PV, PyData.depthAll (toDs x) = deps x
  | [] => by simp [toDs, PyData.depthAll, deps]
  | x :: xs => by simp [toDs, PyData.depthAll, deps, dep_toD x, deps_toD xs]
end
mutual
theorem eqv_toD : ∀ x y : PV, data x = true → data y = true → PyData.eqv (toD x) (toD y) = eqv x y
  | .non, y, _, h => by cases y <;> simp [toD, PyData.eqv, eqv, data] at h ⊢
  | .bl _, y, _, h => by cases y <;> simp [toD, PyData.eqv, eqv, data] at h ⊢
  | .int _, y, _, h => by cases y <;> simp [toD, PyData.eqv, eqv, data] at h ⊢
  | .str x, y, _, h => by
    cases y with
    | str z =>
      simp only [toD, PyData.eqv, eqv]
      by_cases e : x = z
      · subst e; simp
      · rw [beq_eq_false_iff_ne.mpr e, beq_eq_false_iff_ne.mpr fun z => e (txt_inj.mp z)]
    | _ => simp [toD, PyData.eqv, eqv, data] at h ⊢
  | .tup xs, y, g, h => by
    cases y with
    | tup ys => simp only [toD, PyData.eqv, eqv]; exact eqvs_toD xs ys (by simpa [data] using g) (by simpa [data] using h)
    | _ => simp [toD, PyData.eqv, eqv, data] at h ⊢
  | .lst xs, y, g, h => by
    cases y with
    | lst ys => simp only [toD, PyData.eqv, eqv]; exact eqvs_toD xs ys (by simpa [data] using g) (by simpa [data] using h)
    | _ => simp [toD, PyData.eqv, eqv, data] at h ⊢
  | .dct _, _, g, _ => by simp [data] at g
  | .obj _, _, g, _ => by simp [data] at g
theorem eqvs_toD : ∀ x y : List PV, datas x = true → datas y = true → PyData.eqvAll (toDs x) (toDs y) = eqvs x y
  | [], [], _, _ => by simp [toDs, PyData.eqvAll, eqvs]
  | [], _ :: _, _, _ => by simp [toDs, PyData.eqvAll, eqvs]
  | _ :: _, [], _, _ => by simp [toDs, PyData.eqvAll, eqvs]
  | x :: xs, y :: ys, g, h => by
    simp only [datas, Bool.and_eq_true] at g h
    simp only [toDs, PyData.eqvAll, eqvs, eqv_toD x y g.1 h.1, eqvs_toD xs ys g.2 h.2]
end
theorem any_toD (x : PV) (hx : data x = true) : ∀ ys : List PV, datas ys = true → ((toDs ys).any fun z => PyData.eqv z (toD x)) = member x ys
  | [], _ => by simp [toDs, member]
  | y :: ys, h => by
    simp only [datas, Bool.and_eq_true] at h
    have q := any_toD x hx ys h.2
    unfold member at q ⊢
    simp only [toDs, List.any_cons, eqv_toD y x h.1 hx, q]

section
variable {X : L2.Cx} {T : Tb}
/-- a test of two values -/
abbrev fB (g : Bool → PV → PV → Option Bool) : Sto → PV → Md → PV → Md → Option (PV × Md) := fun S x m y _ => (g m.isSh (view S x) (view S y)).map fun b => (.bl b, .sh)
theorem fB_some {g : Bool → PV → PV → Option Bool} {S : Sto} {x : PV} {m : Md} {y : PV} {n : Md} {v : PV} {k : Md} (h : fB g S x m y n = some (v, k)) : ∃ b, g m.isSh (view S x) (view S y) = some b ∧ v = .bl b ∧ k = .sh := by
  obtain ⟨b, h1, h2⟩ := Option.map_eq_some_iff.mp h
  cases h2
  exact ⟨b, h1, rfl, rfl⟩
theorem o_eq (hu : X.A.units + 64 < PySem.cLine) : L2.OpR X (PySem.compareOp .Eq) (RC2 X.K T (fB (cmp2 .eq))) := by
  intro pins s σ H x y xv yv Q I rx ry ⟨W, S, F, v1, m1, v2, m2, v, m, h1, h2, ok, e, hf, q⟩
  have w1 := h1.vw ⟨F, ok⟩
  have w2 := h2.vw ⟨F, ok⟩
  obtain ⟨b, e, rfl, rfl⟩ := fB_some e
  generalize view S v1 = c at *
  generalize view S v2 = d at *
  unfold cmp2 shallow at e
  dsimp only at e
  split at e
  · rename_i hs
    simp only [Bool.and_eq_true, decide_eq_true_eq] at hs
    obtain ⟨⟨d1, d2⟩, hd⟩ := hs
    cases e
    obtain ⟨p1, c1⟩ := dp_vw d1 w1
    obtain ⟨p2, c2⟩ := dp_vw d2 w2
    obtain ⟨as, r1⟩ := L2.Dp.reads I _ x xv p1 rx
    obtain ⟨bs, r2⟩ := L2.Dp.reads I _ y yv p2 ry
    refine PySem.SeqAt.compareEq_reads r1 r2 c1 c2 ?_ ?_
    · rw [dep_toD, dep_toD]; omega
    · rw [eqv_toD _ _ d1 d2]
      exact ⟨.bl _, H, I, rfl, fin_bl ok q⟩
  · cases e
theorem o_ne (hu : X.A.units + 64 < PySem.cLine) : L2.OpR X (PySem.compareOp .NotEq) (RC2 X.K T (fB (cmp2 .ne))) := by
  intro pins s σ H x y xv yv Q I rx ry ⟨W, S, F, v1, m1, v2, m2, v, m, h1, h2, ok, e, hf, q⟩
  have w1 := h1.vw ⟨F, ok⟩
  have w2 := h2.vw ⟨F, ok⟩
  obtain ⟨b, e, rfl, rfl⟩ := fB_some e
  generalize view S v1 = c at *
  generalize view S v2 = d at *
  unfold cmp2 shallow at e
  dsimp only at e
  split at e
  · rename_i hs
    simp only [Bool.and_eq_true, decide_eq_true_eq] at hs
    obtain ⟨⟨d1, d2⟩, hd⟩ := hs
    cases e
    obtain ⟨p1, c1⟩ := dp_vw d1 w1
    obtain ⟨p2, c2⟩ := dp_vw d2 w2
    obtain ⟨as, r1⟩ := L2.Dp.reads I _ x xv p1 rx
    obtain ⟨bs, r2⟩ := L2.Dp.reads I _ y yv p2 ry
    refine PySem.SeqAt.compareNe_reads r1 r2 c1 c2 ?_ ?_
    · rw [dep_toD, dep_toD]; omega
    · rw [eqv_toD _ _ d1 d2]
      exact ⟨.bl _, H, I, rfl, fin_bl ok q⟩
  · cases e
theorem o_lt : L2.OpR X (PySem.compareOp .Lt) (RC2 X.K T (fB (cmp2 .lt))) := by
  intro pins s σ H x y xv yv Q I rx ry ⟨W, S, F, v1, m1, v2, m2, v, m, h1, h2, ok, e, hf, q⟩
  have w1 := h1.vw ⟨F, ok⟩
  have w2 := h2.vw ⟨F, ok⟩
  obtain ⟨b, e, rfl, rfl⟩ := fB_some e
  generalize view S v1 = c at *
  generalize view S v2 = d at *
  cases c <;> cases d <;> simp [cmp2] at e
  subst e
  simp only [Vw, RepV] at w1 w2
  subst w1 w2
  exact L2.op_lt pins s σ H _ _ _ _ Q I rx ry ⟨_, _, rfl, rfl, fin_bl ok q⟩
theorem o_le : L2.OpR X (PySem.compareOp .LtE) (RC2 X.K T (fB (cmp2 .le))) := by
  intro pins s σ H x y xv yv Q I rx ry ⟨W, S, F, v1, m1, v2, m2, v, m, h1, h2, ok, e, hf, q⟩
  have w1 := h1.vw ⟨F, ok⟩
  have w2 := h2.vw ⟨F, ok⟩
  obtain ⟨b, e, rfl, rfl⟩ := fB_some e
  generalize view S v1 = c at *
  generalize view S v2 = d at *
  cases c <;> cases d <;> simp [cmp2] at e
  subst e
  simp only [Vw, RepV] at w1 w2
  subst w1 w2
  exact L2.op_le pins s σ H _ _ _ _ Q I rx ry ⟨_, _, rfl, rfl, fin_bl ok q⟩
theorem o_gt : L2.OpR X (PySem.compareOp .Gt) (RC2 X.K T (fB (cmp2 .gt))) := by
  intro pins s σ H x y xv yv Q I rx ry ⟨W, S, F, v1, m1, v2, m2, v, m, h1, h2, ok, e, hf, q⟩
  have w1 := h1.vw ⟨F, ok⟩
  have w2 := h2.vw ⟨F, ok⟩
  obtain ⟨b, e, rfl, rfl⟩ := fB_some e
  generalize view S v1 = c at *
  generalize view S v2 = d at *
  cases c <;> cases d <;> simp [cmp2] at e
  subst e
  simp only [Vw, RepV] at w1 w2
  subst w1 w2
  exact L2.op_gt pins s σ H _ _ _ _ Q I rx ry ⟨_, _, rfl, rfl, fin_bl ok q⟩
theorem o_ge : L2.OpR X (PySem.compareOp .GtE) (RC2 X.K T (fB (cmp2 .ge))) := by
  intro pins s σ H x y xv yv Q I rx ry ⟨W, S, F, v1, m1, v2, m2, v, m, h1, h2, ok, e, hf, q⟩
  have w1 := h1.vw ⟨F, ok⟩
  have w2 := h2.vw ⟨F, ok⟩
  obtain ⟨b, e, rfl, rfl⟩ := fB_some e
  generalize view S v1 = c at *
  generalize view S v2 = d at *
  cases c <;> cases d <;> simp [cmp2] at e
  subst e
  simp only [Vw, RepV] at w1 w2
  subst w1 w2
  exact L2.op_ge pins s σ H _ _ _ _ Q I rx ry ⟨_, _, rfl, rfl, fin_bl ok q⟩
theorem non_vw {K : PySem.W.Frag} {W : Wd} {H : Hp} {c : PV} {x : V} (h : Vw K W H c x) : decide (x = .non) = isNon c := by
  cases c with
  | non => simp only [Vw, RepV] at h; subst h; rfl
  | bl _ => simp only [Vw, RepV] at h; subst h; rfl
  | int _ => simp only [Vw, RepV] at h; subst h; rfl
  | str _ => simp only [Vw, RepV] at h; obtain ⟨rfl, _⟩ := h; rfl
  | tup _ => obtain ⟨a, vs, rfl, _⟩ := h; rfl
  | lst _ => obtain ⟨a, vs, rfl, _⟩ := h; rfl
  | dct _ => obtain ⟨a, rfl, _⟩ := h; rfl
  | obj _ => simp only [Vw, RepV] at h; obtain ⟨a, _, rfl⟩ := h; rfl
theorem o_isN : L2.OpR X (PySem.compareOp .Is) (RC2 X.K T (fB (cmp2 .isN))) := by
  intro pins s σ H x y xv yv Q I rx ry ⟨W, S, F, v1, m1, v2, m2, v, m, h1, h2, ok, e, hf, q⟩
  have w1 := h1.vw ⟨F, ok⟩
  have w2 := h2.vw ⟨F, ok⟩
  obtain ⟨b, e, rfl, rfl⟩ := fB_some e
  generalize view S v1 = c at *
  generalize view S v2 = d at *
  have hd : (d = .non ∧ b = isNon c) ∨ (∃ p r, c = .bl p ∧ d = .bl r ∧ b = decide (p = r)) := by
    cases d with
    | non => simp only [cmp2, Option.some.injEq] at e; exact .inl ⟨rfl, e.symm⟩
    | bl r => cases c <;> simp only [cmp2, Option.some.injEq, reduceCtorEq] at e; exact .inr ⟨_, _, rfl, rfl, e.symm⟩
    | _ => cases c <;> simp [cmp2] at e
  rcases hd with ⟨rfl, rfl⟩ | ⟨p, r, rfl, rfl, rfl⟩
  · have ey : y = .non := by simpa only [Vw, RepV] using w2
    subst ey
    have z := non_vw w1
    rw [← z] at q
    exact L2.op_isN pins s σ H _ _ _ _ Q I rx ry ⟨rfl, fin_bl ok q⟩
  · have ex : x = .bl p := by simpa only [Vw, RepV] using w1
    have ey : y = .bl r := by simpa only [Vw, RepV] using w2
    subst ex ey
    exact L2.op_is_bl pins s σ H _ _ _ _ Q I rx ry ⟨_, _, rfl, rfl, fin_bl ok q⟩
theorem o_notN : L2.OpR X (PySem.compareOp .IsNot) (RC2 X.K T (fB (cmp2 .notN))) := by
  intro pins s σ H x y xv yv Q I rx ry ⟨W, S, F, v1, m1, v2, m2, v, m, h1, h2, ok, e, hf, q⟩
  have w1 := h1.vw ⟨F, ok⟩
  have w2 := h2.vw ⟨F, ok⟩
  obtain ⟨b, e, rfl, rfl⟩ := fB_some e
  generalize view S v1 = c at *
  generalize view S v2 = d at *
  have hd : (d = .non ∧ b = !isNon c) ∨ (∃ p r, c = .bl p ∧ d = .bl r ∧ b = !decide (p = r)) := by
    cases d with
    | non => simp only [cmp2, Option.some.injEq] at e; exact .inl ⟨rfl, e.symm⟩
    | bl r => cases c <;> simp only [cmp2, Option.some.injEq, reduceCtorEq] at e; exact .inr ⟨_, _, rfl, rfl, e.symm⟩
    | _ => cases c <;> simp [cmp2] at e
  rcases hd with ⟨rfl, e'⟩ | ⟨p, r, rfl, rfl, rfl⟩
  · have ey : y = .non := by simpa only [Vw, RepV] using w2
    subst ey
    have z := non_vw w1
    have e' : b = !decide (x = .non) := by rw [z, e']
    rw [e'] at q
    exact L2.op_notN pins s σ H _ _ _ _ Q I rx ry ⟨rfl, fin_bl ok q⟩
  · have ex : x = .bl p := by simpa only [Vw, RepV] using w1
    have ey : y = .bl r := by simpa only [Vw, RepV] using w2
    subst ex ey
    exact L2.op_notBl pins s σ H _ _ _ _ Q I rx ry ⟨_, _, rfl, rfl, fin_bl ok q⟩
end
end SR

set_option maxRecDepth 100000
/-! Dicts asked, in, items, slices by values. -/
namespace SR
open PySem (Addr Str Value PyData Heap)
open L2 (V Hp HO Key upd Rd SqL SqT)
theorem KeyR.inj {k k1 : Ky} {k' k1' : Key} (a : KeyR k k') (b : KeyR k1 k1') : k = k1 ↔ k' = k1' := by
  cases a <;> cases b <;> simp [txt_inj]
theorem pathK_inj {p q : List Nat} : pathK p = pathK q ↔ p = q := by
  constructor
  · intro h
    unfold pathK at h
    exact (List.map_inj_right (fun a b e => by injection e with e; omega)).mp h
  · rintro rfl; rfl
section
variable {K : PySem.W.Frag} {W : Wd} {H : Hp}
theorem valV_cons {κ : Type} [DecidableEq κ] {p : κ × V} {r : List (κ × V)} {k : κ} : L2.valV (p :: r) k = if p.1 = k then some p.2 else L2.valV r k := by
  by_cases e : p.1 = k
  · rw [if_pos e, L2.valV_pos e]
  · rw [if_neg e, L2.valV_neg e]
/-- what is found: the same on both sides -/
def Found (K : PySem.W.Frag) (W : Wd) (H : Hp) : Option PV → Option V → Prop
  | some v, o => ∃ x, o = some x ∧ RepV K W H v x
  | none, o => o = none
theorem RepK.look {k : Ky} {k' : Key} (hk : KeyR k k') : ∀ {kvs : List (Ky × PV)} {ks : List (Key × V)}, RepK K W H kvs ks → Found K W H (lookK k kvs) (L2.valV ks k')
  | [], ks, h => by
    simp only [RepK] at h
    subst h
    rfl
  | (k1, v) :: r, ks, h => by
    simp only [RepK] at h
    obtain ⟨k2, x, t, rfl, hk1, hv, hr⟩ := h
    rw [valV_cons]
    unfold lookK
    by_cases e : k1 = k
    · rw [if_pos e, if_pos ((hk1.inj hk).mp e)]
      exact ⟨x, rfl, hv⟩
    · rw [if_neg e, if_neg fun z => e ((hk1.inj hk).mpr z)]
      exact RepK.look hk hr
theorem RepT.look {p : List Nat} : ∀ {kvs : List (Ky × PV)} {ks : List (List Key × V)}, RepT K W H kvs ks → Found K W H (lookK (.tp p) kvs) (L2.valV ks (pathK p))
  | [], ks, h => by
    simp only [RepT] at h
    subst h
    rfl
  | (k1, v) :: r, ks, h => by
    simp only [RepT] at h
    obtain ⟨k2, x, t, rfl, rfl, hv, hr⟩ := h
    rw [valV_cons]
    unfold lookK
    by_cases e : k2 = p
    · rw [if_pos (congrArg Ky.tp e), if_pos (pathK_inj.mpr e)]
      exact ⟨x, rfl, hv⟩
    · rw [if_neg (fun z => e (Ky.tp.inj z)), if_neg fun z => e (pathK_inj.mp z)]
      exact RepT.look hr
theorem path_reps : ∀ {xs : List PV} {vs : List V} {p : List Nat}, pathOf xs = some p → RepVs K W H xs vs → vs = (pathK p).map L2.kV
  | [], vs, p, e, h => by
    simp only [RepVs] at h
    simp [pathOf] at e
    subst h e
    rfl
  | x :: xs, vs, p, e, h => by
    simp only [RepVs] at h
    obtain ⟨v, r, rfl, h1, h2⟩ := h
    cases x with
    | int i =>
      simp only [pathOf] at e
      split at e
      · obtain ⟨q, e1, rfl⟩ := Option.map_eq_some_iff.mp e
        have z := path_reps e1 h2
        simp only [RepV] at h1
        subst h1 z
        rename_i h0
        show V.int i :: _ = V.int ((i.toNat : Nat) : Int) :: _
        rw [Int.toNat_of_nonneg h0]
        rfl
      · cases e
    | _ => simp [pathOf] at e
/-- a key as the heap shows it -/
inductive KeyV (K : PySem.W.Frag) (W : Wd) (H : Hp) : Ky → V → Prop where
  | k {k : Ky} {k' : Key} : KeyR k k' → KeyV K W H k (L2.kV k')
  | t {p : List Nat} {b : Addr} : W.sh b → H b = some (.tup ((pathK p).map L2.kV)) → KeyV K W H (.tp p) (.ref b)
theorem key_of {v : PV} {y : V} {k : Ky} (e : keyOf v = some k) (h : RepV K W H v y) : KeyV K W H k y := by
  cases v with
  | int i =>
    cases e
    simp only [RepV] at h
    subst h
    exact .k (.int i)
  | str x =>
    cases e
    simp only [RepV] at h
    obtain ⟨rfl, a⟩ := h
    exact .k (.str x a)
  | tup xs =>
    obtain ⟨p, e1, rfl⟩ := Option.map_eq_some_iff.mp e
    simp only [RepV] at h
    obtain ⟨a, vs, rfl, t, r⟩ := h
    rcases t with ⟨s, t⟩ | ⟨_, t⟩
    · rw [path_reps e1 r] at t
      exact .t s t
    · rw [e1] at t; cases t
  | _ => cases e
end
/-- what the dict at a holds at y; an empty one may be asked by any key -/
def DGetE (H : Hp) (a : Addr) (y : V) (r : Option V) : Prop :=
  L2.DGet H a y r ∨ (r = none ∧ Rd H a (.dK []) ∧ ∃ (b : Addr) (k : List Key), y = .ref b ∧ H b = some (.tup (k.map L2.kV))) ∨ (r = none ∧ Rd H a (.dT []) ∧ ∃ k : Key, y = L2.kV k)
theorem dget_of {K : PySem.W.Frag} {W : Wd} {H : Hp} {kvs : List (Ky × PV)} {x y : V} {v : PV} {o : Option PV} (hd : Vw K W H (.dct kvs) x) (hv : RepV K W H v y) (e : getK v kvs = some o) : ∃ a r, x = .ref a ∧ L2.IsD H a ∧ DGetE H a y r ∧ Found K W H o r := by
  unfold getK at e
  split at e
  · rename_i k hk
    split at e
    · rename_i ho
      cases e
      obtain ⟨a, rfl, hd⟩ := hd
      have hy := key_of hk hv
      rcases hd with ⟨ks, r, rep⟩ | ⟨ks, r, rep⟩
      · cases hy with
        | k hr => exact ⟨a, _, rfl, .inl ⟨ks, r⟩, .inl (.inl ⟨ks, _, r, rfl, rfl⟩), rep.look hr⟩
        | t s hb =>
          cases kvs with
          | nil =>
            simp only [RepK] at rep
            subst rep
            exact ⟨a, none, rfl, .inl ⟨_, r⟩, .inr (.inl ⟨rfl, r, _, _, rfl, hb⟩), rfl⟩
          | cons p t =>
            obtain ⟨k1, v1⟩ := p
            simp only [RepK] at rep
            obtain ⟨k2, _, _, _, hk1, _⟩ := rep
            cases hk1 <;> simp [kindOk] at ho
      · cases hy with
        | k hr =>
          cases kvs with
          | nil =>
            simp only [RepT] at rep
            subst rep
            exact ⟨a, none, rfl, .inr ⟨_, r⟩, .inr (.inr ⟨rfl, r, _, rfl⟩), rfl⟩
          | cons p t =>
            obtain ⟨k1, v1⟩ := p
            simp only [RepT] at rep
            obtain ⟨k2, _, _, _, rfl, _⟩ := rep
            cases hr <;> simp [kindOk] at ho
        | t s hb => exact ⟨a, _, rfl, .inr ⟨ks, r⟩, .inl (.inr ⟨ks, _, _, r, rfl, hb, rfl⟩), rep.look⟩
    · cases e
  · cases e
section
variable {X : L2.Cx} {pins : List (Addr × PySem.Obj)} {σ : L2.St} {H : Hp} {s : PySem.Shared} {a : Addr}
/-- an empty dict is an empty dict -/
theorem dT0 (I : L2.Inv X pins σ H s) (e : Rd H a (.dK [])) : (a == PySem.sysModules) = false ∧ s.heap.DictOfH (PySem.tupleKind (L2.mixKind X.prog X.w)) a [] := by
  obtain ⟨_, hd, vs, rel, o, es, ep, h1, h2, h3, h4, h5, h6⟩ := L2.dk_rd I.hok e
  cases rel
  have : es.toList = [] := by
    cases h : es.toList with
    | nil => rfl
    | cons x r => rw [h] at h5; cases h5
  exact ⟨hd, o, es, ep, h1, h2, h3, by simpa using this, fun x hx => by simp at hx, List.nodup_nil⟩
theorem dK0 (I : L2.Inv X pins σ H s) (e : Rd H a (.dT [])) : (a == PySem.sysModules) = false ∧ s.heap.DictOf (L2.mixKind X.prog X.w) a [] := by
  obtain ⟨_, hd, xs, rel, o, es, ep, h1, h2, h3, h4, h5, h6⟩ := L2.dt_rd I.hok e
  cases rel
  have : es.toList = [] := by simpa using h4
  refine ⟨hd, o, es, ep, h1, h2, h3, ?_, by rw [this]; exact .nil, List.nodup_nil⟩
  intro x hx
  have z : x ∈ es.toList := by simpa using hx
  rw [this] at z
  cases z
variable {y : V} {u : Value} {A : PySem.Around} {E : Value → PySem.Shared → Prop} {o : Option V}
open PySem in
theorem d_inE {Q : Value → PySem.Shared → Prop} (hu : A.units + 1 < PySem.cLine) (I : L2.Inv X pins σ H s) (g : DGetE H a y o) (ry : L2.RelV y u) (h : ∀ s', L2.Inv X pins σ H s' → Q (.bool o.isSome) s') :
    PySem.wpAny (PySem.model X.prog X.w) A (PySem.compareOp .In u (.ref a)) Q E s := by
  rcases g with g | ⟨rfl, e, b, k, rfl, eb⟩ | ⟨rfl, e, k, rfl⟩
  · exact L2.d_in hu I g ry h
  · cases (show u = Value.ref b from ry)
    obtain ⟨hd, dd⟩ := dT0 I e
    exact wpAny_in_heap (tupleKind_room_in1 hu) (L2.key_of I.hok eb) hd dd (h _ (I.tok _))
  · obtain ⟨hd, dd⟩ := dK0 I e
    exact PySem.wpAny_in_of (L2.kV_is ry) hd dd.mapOf (h _ (I.tok _))
open PySem in
theorem d_notInE {Q : Value → PySem.Shared → Prop} (hu : A.units + 1 < PySem.cLine) (I : L2.Inv X pins σ H s) (g : DGetE H a y o) (ry : L2.RelV y u) (h : ∀ s', L2.Inv X pins σ H s' → Q (.bool (!o.isSome)) s') :
    PySem.wpAny (PySem.model X.prog X.w) A (PySem.compareOp .NotIn u (.ref a)) Q E s := by
  rcases g with g | ⟨rfl, e, b, k, rfl, eb⟩ | ⟨rfl, e, k, rfl⟩
  · exact L2.d_notIn hu I g ry h
  · cases (show u = Value.ref b from ry)
    obtain ⟨hd, dd⟩ := dT0 I e
    exact PyProof.Rows.wpAny_notIn_heap (tupleKind_room_in1 hu) (L2.key_of I.hok eb) hd dd (h _ (I.tok _))
  · obtain ⟨hd, dd⟩ := dK0 I e
    exact PySem.wpAny_notIn_of (L2.kV_is ry) hd dd.mapOf (h _ (I.tok _))
open PySem in
theorem d_get1E {Q : Value → PySem.Shared → Prop} (hu : A.units + 1 < PySem.cLine) (I : L2.Inv X pins σ H s) (g : DGetE H a y o) (ry : L2.RelV y u) (h : ∀ w' s', L2.Inv X pins σ H s' → L2.RelV (o.getD .non) w' → Q w' s') :
    PySem.wpAny (PySem.model X.prog X.w) A (PySem.call (.builtin "dict.get") [.ref a, u]) Q E s := by
  rcases g with g | ⟨rfl, e, b, k, rfl, eb⟩ | ⟨rfl, e, k, rfl⟩
  · exact L2.d_get1 hu I g ry h
  · cases (show u = Value.ref b from ry)
    obtain ⟨hd, dd⟩ := dT0 I e
    exact call_meetsIn PySem.F.slot_dict_get dd.typeIs PySem.F.entry_dict_get (PySem.F.args_dict_get_2 _ _) (meetsH_dict_get (tupleKind (L2.mixKind X.prog X.w)) a b hd) ⟨tupleKind_room_in1 hu, k, [], L2.key_of I.hok eb, dd, h _ _ (I.tok _) rfl⟩
  · obtain ⟨hd, dd⟩ := dK0 I e
    exact call_meetsIn PySem.F.slot_dict_get dd.typeIs PySem.F.entry_dict_get (PySem.F.args_dict_get_2 _ _) (meets_dict_get (L2.mixKind X.prog X.w) a (L2.kV_is ry) hd) ⟨_, dd.mapOf, h _ _ (I.tok _) rfl⟩
open PySem in
theorem d_get2E {d : V} {r : Value} {Q : Value → PySem.Shared → Prop} (hu : A.units + 1 < PySem.cLine) (I : L2.Inv X pins σ H s) (g : DGetE H a y o) (ry : L2.RelV y u) (rd : L2.RelV d r) (h : ∀ w' s', L2.Inv X pins σ H s' → L2.RelV (o.getD d) w' → Q w' s') :
    PySem.wpAny (PySem.model X.prog X.w) A (PySem.call (.builtin "dict.get") [.ref a, u, r]) Q E s := by
  rcases g with g | ⟨rfl, e, b, k, rfl, eb⟩ | ⟨rfl, e, k, rfl⟩
  · exact L2.d_get2 hu I g ry rd h
  · cases (show u = Value.ref b from ry)
    obtain ⟨hd, dd⟩ := dT0 I e
    exact call_meetsIn PySem.F.slot_dict_get dd.typeIs PySem.F.entry_dict_get (PySem.F.args_dict_get_3 _ _ _) (meetsH_dict_get_default (tupleKind (L2.mixKind X.prog X.w)) a b hd r) ⟨tupleKind_room_in1 hu, k, [], L2.key_of I.hok eb, dd, h _ _ (I.tok _) rd⟩
  · obtain ⟨hd, dd⟩ := dK0 I e
    exact call_meetsIn PySem.F.slot_dict_get dd.typeIs PySem.F.entry_dict_get (PySem.F.args_dict_get_3 _ _ _) (meets_dict_get_default (L2.mixKind X.prog X.w) a (L2.kV_is ry) hd r) ⟨_, dd.mapOf, h _ _ (I.tok _) rd⟩
end

/-! ### in -/
section
variable {X : L2.Cx} {T : Tb}
theorem found_some {K : PySem.W.Frag} {W : Wd} {H : Hp} {o : Option PV} {r : Option V} (h : Found K W H o r) : r.isSome = o.isSome := by
  cases o with
  | none => cases (show r = none from h); rfl
  | some v => obtain ⟨x, rfl, _⟩ := h; rfl
theorem key_view {K : PySem.W.Frag} {W : Wd} {H : Hp} {S : Sto} {F : List Addr} {v : PV} {x : V} {kvs : List (Ky × PV)} {o : Option PV} (ok : Ok K T W H S F) (h : RepV K W H v x) (e : getK (view S v) kvs = some o) : RepV K W H (view S v) x := by
  cases v with
  | obj l =>
    simp only [RepV] at h
    obtain ⟨a, e0, rfl⟩ := h
    cases e1 : S[l]? with
    | none => simp [view, e1, getK, keyOf] at e
    | some u =>
      obtain ⟨A, st, _⟩ := ok.st
      obtain ⟨b, B, C, D, e2, _, p, _⟩ := st.at e1
      rw [e0] at e2
      cases e2
      cases u with
      | ins c fs => simp [view, e1, getK, keyOf] at e
      | box u =>
        have z := p.2
        cases u <;> first | exact z.elim | simp [view, e1, getK, keyOf] at e
      | fz u => simp only [view, e1]; exact p.2
  | _ => exact h
theorem str1 {K : PySem.W.Frag} {W : Wd} {H : Hp} {c : Nat} {x : V} (h : Vw K W H (.str [c]) x) : x = .str ⟨#[c]⟩ := by
  simp only [Vw, RepV] at h
  exact h.1
theorem o_in (hu : X.A.units + 65 < PySem.cLine) : L2.OpR X (PySem.compareOp .In) (RC2 X.K T (fB (cmp2 .inn))) := by
  intro pins s σ H x y xv yv Q I rx ry ⟨W, S, F, v1, m1, v2, m2, v, m, h1, h2, ok, e, hf, q⟩
  have w1 := h1.vw ⟨F, ok⟩
  have w2 := h2.vw ⟨F, ok⟩
  obtain ⟨b, e, rfl, rfl⟩ := fB_some e
  have t1 : m1.isSh = true → RepV X.K W H v1 x := fun z => by cases m1 <;> first | exact h1 | cases z
  generalize hc : view S v1 = c at *
  generalize view S v2 = d at *
  generalize m1.isSh = k at *
  unfold cmp2 at e
  split at e
  all_goals try cases ‹COp.inn = _›
  · split at e
    · rename_i hs
      simp only [Bool.and_eq_true, decide_eq_true_eq] at hs
      obtain ⟨⟨d1, hd⟩, d2⟩ := hs
      cases e
      obtain ⟨p1, c1⟩ := dp_vw d1 w1
      obtain ⟨p2, c2⟩ := dp_vw (x := .tup _) (by simpa [data] using d2) w2
      obtain ⟨as, r1⟩ := L2.Dp.reads I _ x xv p1 rx
      obtain ⟨bs, r2⟩ := L2.Dp.reads I _ y yv p2 ry
      simp only [toD] at r2 c2
      refine PySem.SeqAt.in_tuple_reads r2 r1 (by simpa [PyData.canLay0] using c2) c1 ?_ ?_
      · rw [dep_toD]; omega
      · rw [any_toD _ d1 _ d2]
        exact ⟨.bl _, H, I, rfl, fin_bl ok q⟩
    · cases e
  · split at e
    · rename_i hs
      simp only [Bool.and_eq_true, decide_eq_true_eq] at hs
      obtain ⟨⟨d1, hd⟩, d2⟩ := hs
      cases e
      obtain ⟨p1, c1⟩ := dp_vw d1 w1
      obtain ⟨p2, c2⟩ := dp_vw (x := .lst _) (by simpa [data] using d2) w2
      obtain ⟨as, r1⟩ := L2.Dp.reads I _ x xv p1 rx
      obtain ⟨bs, r2⟩ := L2.Dp.reads I _ y yv p2 ry
      simp only [toD] at r2 c2
      refine PySem.SeqAt.in_list_reads r2 r1 (by simpa [PyData.canLay0] using c2) c1 ?_ ?_
      · rw [dep_toD]; omega
      · rw [any_toD _ d1 _ d2]
        exact ⟨.bl _, H, I, rfl, fin_bl ok q⟩
    · cases e
  · cases e
    have ex := str1 w1
    subst ex
    simp only [Vw, RepV] at w2
    obtain ⟨rfl, _⟩ := w2
    exact L2.op_in_sign pins s σ H _ _ _ _ Q I rx ry ⟨_, _, rfl, rfl, fin_bl ok q⟩
  · obtain ⟨o, e1, rfl⟩ := Option.map_eq_some_iff.mp e
    subst hc
    obtain ⟨a, r, rfl, _, g, fd⟩ := dget_of w2 (key_view ok (t1 rfl) e1) e1
    cases ry
    refine d_inE (by omega) I g rx fun s' I' => ⟨.bl _, H, I', rfl, ?_⟩
    rw [found_some fd]
    exact fin_bl ok q
  · cases e
theorem o_nin (hu : X.A.units + 65 < PySem.cLine) : L2.OpR X (PySem.compareOp .NotIn) (RC2 X.K T (fB (cmp2 .nin))) := by
  intro pins s σ H x y xv yv Q I rx ry ⟨W, S, F, v1, m1, v2, m2, v, m, h1, h2, ok, e, hf, q⟩
  have w1 := h1.vw ⟨F, ok⟩
  have w2 := h2.vw ⟨F, ok⟩
  obtain ⟨b, e, rfl, rfl⟩ := fB_some e
  have t1 : m1.isSh = true → RepV X.K W H v1 x := fun z => by cases m1 <;> first | exact h1 | cases z
  generalize hc : view S v1 = c at *
  generalize view S v2 = d at *
  generalize m1.isSh = k at *
  unfold cmp2 at e
  split at e
  all_goals try cases ‹COp.nin = _›
  · split at e
    · rename_i hs
      simp only [Bool.and_eq_true, decide_eq_true_eq] at hs
      obtain ⟨⟨d1, hd⟩, d2⟩ := hs
      cases e
      obtain ⟨p1, c1⟩ := dp_vw d1 w1
      obtain ⟨p2, c2⟩ := dp_vw (x := .tup _) (by simpa [data] using d2) w2
      obtain ⟨as, r1⟩ := L2.Dp.reads I _ x xv p1 rx
      obtain ⟨bs, r2⟩ := L2.Dp.reads I _ y yv p2 ry
      simp only [toD] at r2 c2
      refine PySem.SeqAt.notIn_tuple_reads r2 r1 (by simpa [PyData.canLay0] using c2) c1 ?_ ?_
      · rw [dep_toD]; omega
      · rw [any_toD _ d1 _ d2]
        exact ⟨.bl _, H, I, rfl, fin_bl ok q⟩
    · cases e
  · split at e
    · rename_i hs
      simp only [Bool.and_eq_true, decide_eq_true_eq] at hs
      obtain ⟨⟨d1, hd⟩, d2⟩ := hs
      cases e
      obtain ⟨p1, c1⟩ := dp_vw d1 w1
      obtain ⟨p2, c2⟩ := dp_vw (x := .lst _) (by simpa [data] using d2) w2
      obtain ⟨as, r1⟩ := L2.Dp.reads I _ x xv p1 rx
      obtain ⟨bs, r2⟩ := L2.Dp.reads I _ y yv p2 ry
      simp only [toD] at r2 c2
      refine PySem.SeqAt.notIn_list_reads r2 r1 (by simpa [PyData.canLay0] using c2) c1 ?_ ?_
      · rw [dep_toD]; omega
      · rw [any_toD _ d1 _ d2]
        exact ⟨.bl _, H, I, rfl, fin_bl ok q⟩
    · cases e
  · cases e
    have ex := str1 w1
    subst ex
    simp only [Vw, RepV] at w2
    obtain ⟨rfl, _⟩ := w2
    exact L2.op_notIn_sign pins s σ H _ _ _ _ Q I rx ry ⟨_, _, rfl, rfl, fin_bl ok q⟩
  · obtain ⟨o, e1, rfl⟩ := Option.map_eq_some_iff.mp e
    subst hc
    obtain ⟨a, r, rfl, _, g, fd⟩ := dget_of w2 (key_view ok (t1 rfl) e1) e1
    cases ry
    refine d_notInE (by omega) I g rx fun s' I' => ⟨.bl _, H, I', rfl, ?_⟩
    rw [found_some fd]
    exact fin_bl ok q
  · cases e
end

/-! ### items, slices -/
section
variable {X : L2.Cx} {T : Tb}
abbrev fIt : Sto → PV → Md → PV → Md → Option (PV × Md) := fun S x _ y n => if n.isSh then (item (view S x) y).map fun v => (v, .sh) else none
theorem atI_map {K : PySem.W.Frag} {W : Wd} {H : Hp} {xs : List PV} {vs : List V} {i : Int} {v : PV} (h : RepVs K W H xs vs) (e : (atI xs.length i).bind (fun k => xs[k]?) = some v) : ∃ x, L2.atI vs i = some x ∧ RepV K W H v x := by
  obtain ⟨k, e1, e2⟩ := Option.bind_eq_some_iff.mp e
  obtain ⟨x, e3, r⟩ := h.get e2
  refine ⟨x, ?_, r⟩
  unfold L2.atI
  rw [h.len, show L2.ixN xs.length i = some k from e1]
  exact e3
theorem o_item (hu : X.A.units + 1 < PySem.cLine) : L2.IxR X (RC2 X.K T fIt) := by
  intro value slice pins s σ H x y xv yv Q I rx ry ⟨W, S, F, v1, m1, v2, m2, v, m, h1, h2, ok, e, hf, q⟩ hs
  have w1 := h1.vw ⟨F, ok⟩
  unfold fIt at e
  split at e
  · rename_i hm
    have w2 : RepV X.K W H v2 y := by cases m2 <;> first | exact h2 | cases hm
    obtain ⟨u, e1, e2⟩ := Option.map_eq_some_iff.mp e
    cases e2
    clear e
    have e := e1
    clear e1
    generalize view S v1 = c at *
    unfold item at e
    split at e
    · simp only [RepV] at w2
      subst w2
      obtain ⟨a, vs, rfl, t, r⟩ := w1
      obtain ⟨z, e1, r1⟩ := atI_map r e
      exact L2.ix_tup value slice pins s σ H _ _ _ _ Q I rx ry ⟨a, vs, _, z, rfl, rfl, t, e1, fin_same ok r1 q⟩ hs
    · simp only [RepV] at w2
      subst w2
      obtain ⟨a, vs, rfl, t, r⟩ := w1
      obtain ⟨z, e1, r1⟩ := atI_map r e
      exact L2.ix_list value slice pins s σ H _ _ _ _ Q I rx ry ⟨a, vs, _, z, rfl, rfl, .inl t, e1, fin_same ok r1 q⟩ hs
    · split at e
      · rename_i hl
        obtain ⟨k, e3, rfl⟩ := Option.map_eq_some_iff.mp e
        simp only [RepV] at w2
        subst w2
        simp only [Vw, RepV] at w1
        obtain ⟨rfl, ha⟩ := w1
        obtain ⟨j, e1, e2⟩ := Option.bind_eq_some_iff.mp e3
        refine L2.ix_str value slice pins s σ H _ _ _ _ Q I rx ry ⟨_, _, k, rfl, rfl, ?_, ?_, fin_str (x := [k]) ok ?_ q⟩ hs
        · rw [txt_length]; exact lim_size hl
        · unfold L2.atI
          exact Option.bind_eq_some_iff.mpr ⟨j, e1, e2⟩
        · intro z hz
          have : z = k := by simpa using hz
          subst this
          exact ha _ (List.mem_of_getElem? e2)
      · cases e
    · obtain ⟨o, e1, e2⟩ := Option.bind_eq_some_iff.mp e
      have e2 : o = some v := e2
      subst e2
      obtain ⟨a, r, rfl, _, g, z, rfl, fd⟩ := dget_of w1 w2 e1
      cases rx
      rcases g with g | ⟨g, _⟩ | ⟨g, _⟩
      · exact PyProof.Rows.tail_any (L2.dict_typeIs I g) PySem.F.slot_dict_getitem.lookup (L2.d_getItem hu I g ry fun w' s3 I3 rw' => ⟨z, H, I3, rw', fin_same ok fd q⟩) hs
      · cases g
      · cases g
    · cases e
  · cases e
/-- one value -/
def RC1 (K : PySem.W.Frag) (T : Tb) (f : Sto → PV → Md → Option (PV × Md)) : V → Hp → L2.VK → Prop := fun x H Q => ∃ W S F v1 m1 v m,
  Held K W H F m1 v1 x ∧ Ok K T W H S F ∧ f S v1 m1 = some (v, m) ∧ m.fin = true ∧ Aft K T W H S F v m Q
theorem cut_reps {K : PySem.W.Frag} {W : Wd} {H : Hp} {xs : List PV} {vs : List V} {lo hi : Option Int} (r : RepVs K W H xs vs) : RepVs K W H (cut xs lo hi) (L2.cutV vs lo hi) := by
  have e : L2.cutV vs lo hi = (vs.drop (clip xs.length 0 lo)).take (clip xs.length xs.length hi - clip xs.length 0 lo) := by
    rw [← r.len]
    unfold L2.cutV
    cases lo <;> cases hi <;> rfl
  rw [e]
  exact (r.drop _).take _
theorem cut_all {xs : List PV} {lo hi : Option Int} (h : HT.sIx xs.length 0 lo = 0 ∧ HT.sIx xs.length xs.length hi = xs.length) : cut xs lo hi = xs := by
  have h1 : clip xs.length 0 lo = 0 := by cases lo <;> exact h.1
  have h2 : clip xs.length xs.length hi = xs.length := by cases hi <;> exact h.2
  unfold cut
  rw [h1, h2]
  simp
theorem o_slice : L2.SlR X (fun x lo hi H Q => RC1 X.K T (fun S v m => slice lo hi m.isSh (view S v)) x H Q) := by
  intro pins s σ H x xv vl vu lo hi sl Q I rx hs pl pu ⟨W, S, F, v1, m1, v, m, h1, ok, e, hf, q⟩
  have w1 := h1.vw ⟨F, ok⟩
  have t1 : m1.isSh = true → RepV X.K W H v1 x := fun z => by cases m1 <;> first | exact h1 | cases z
  dsimp only at e
  generalize hc : view S v1 = c at *
  generalize m1.isSh = k at *
  unfold slice at e
  split at e
  · cases e
    have g := tup_view ok (t1 rfl) hc
    obtain ⟨a, vs, rfl, t, r⟩ := w1
    refine L2.sl_tupA pins s σ H _ _ _ _ _ _ _ Q I rx hs pl pu ⟨a, vs, rfl, t, fun z => ?_, fun _ p np => fin_tup ok np (cut_reps r) q⟩
    rw [r.len] at z
    rw [cut_all z] at q
    exact fin_same ok g q
  · cases e
    obtain ⟨a, vs, rfl, t, r⟩ := w1
    exact L2.sl_list pins s σ H _ _ _ _ _ _ _ Q I rx hs pl pu ⟨a, vs, rfl, .inl t, fun p np => fin_lst ok np (cut_reps r) q⟩
  · split at e
    · cases e
      simp only [Vw, RepV] at w1
      obtain ⟨rfl, ha⟩ := w1
      rename_i xs hl
      refine L2.sl_str pins s σ H _ _ _ _ _ _ _ Q I rx hs pl pu ⟨_, rfl, by rw [txt_length]; exact lim_size hl, ?_⟩
      have e : L2.cutS (txt xs) lo hi = txt (cut xs lo hi) := by
        unfold L2.cutS cut
        rw [txt_length]
        cases lo <;> cases hi <;> rfl
      rw [e]
      exact fin_str ok (fun z hz => ha z (List.mem_of_mem_drop (List.mem_of_mem_take hz))) q
    · cases e
  · cases e
end
end SR

set_option maxRecDepth 100000
/-! Expressions: each form's rule. -/
namespace SR
open PySem (Addr Str Value PyData Heap)
open L2 (V Hp HO Key upd Rd SqL SqT)
/-- the names that the terms' numbers stand for -/
structure Sg where
  fns : Nat → Option Str
  /-- the methods' names, the classes' names -/
  mts : Nat → Option Str
  cls : Nat → Option Str
  con : Nat → Option Str
  blt : List Str
  tab : Nat → Option Str
  /-- the refusals' names, the fields' names -/
  exs : Nat → Option Str
  flds : List Str
/-- what a def's call asks and promises, by the evaluator -/
def spF (K : PySem.W.Frag) (T : Tb) (exc : Nat → Value) (Φ : Phi) (i n : Nat) : L2.Sp := fun vs H Q E => vs.length = n ∧ ∃ W S A F pvs, SlsR K W H pvs (vs.map some) A ∧ Ok K T W H S (A ++ F) ∧ match Φ i pvs S with
  | .ok v m S' => m.fin = true ∧ ∀ W' H' x, Grow W H W' H' → Fr H H' F false → Held K W' H' F m v x → Ok K T W' H' S' (ownA m x ++ F) → Q x H'
  | .exc c S' => ∀ W' H', Grow W H W' H' → Fr H H' F false → Ok K T W' H' S' F → E (exc c) none H'
  | .bad => False
/-- a top's constant -/
def ConR (K : PySem.W.Frag) (v : PV) (b : Bool) (z : V) : Prop := if b = true then (∀ W H, RepV K W H v z) else ∀ W H, ∃ a xs vs, z = .ref a ∧ v = .tup xs ∧ WrT K a vs ∧ RepVs K W H xs vs
/-- a top's dict with numbers as keys -/
def TabR (K : PySem.W.Frag) (d : Addr) (kvs : List (Int × PV)) : Prop := ∃ es n, K.lookup d = some ⟨.type "dict", none, .dict es n, #[]⟩ ∧ (∀ e ∈ es, ∃ k t, e.key = .int k t ∧ e.hash = PySem.hashInt k) ∧
  ∀ k v, kvs.lookup k = some v → ∃ u z, PySem.findBy PySem.Value.isInt es k = some u ∧ L2.RelV z u ∧ ∀ W H, RepV K W H v z
/-- a name of the def -/
def visB (sc : PySem.Scope) (x : Str) : Bool := match sc.names.lookup x with
  | some .local => true
  | some .cell => true
  | some .free => true
  | _ => false
def locB (sc : PySem.Scope) (x : Str) : Bool := match sc.names.lookup x with
  | some .local => true
  | some .cell => true
  | _ => false
def glB (sc : PySem.Scope) (x : Str) : Bool := match sc.names.lookup x with
  | some .globalImplicit => true
  | _ => false
def plain (x : Str) : Bool := !(x == ("__debug__" : Str)) && !(x == ("__classdict__" : Str))
structure Ctx (X : L2.Cx) (T : Tb) (G : Prg) (Φ : Phi) (g : Sg) (sc : PySem.Scope) (N : List Str) (exc : Nat → Value) (WX : WXn) : Prop where
  calm : X.calm = true
  hN : X.N = N
  nd : N.Nodup
  vis : ∀ x, visB sc x = true → L2.Vis X.env.scope x
  loc : ∀ x, locB sc x = true → L2.Loc X.env.scope x
  gl : ∀ x, glB sc x = true → L2.Gl X x
  cf : ∀ x, (sc.names.lookup x = some .cell ∨ sc.names.lookup x = some .free) → (X.env.scope.names.lookup x = some .cell ∨ X.env.scope.names.lookup x = some .free)
  fnl : ∀ x, locB sc x = true → X.fn x = true ∨ X.env.scope.names.lookup x = some .local
  units : X.A.units + 80 < PySem.cLine
  tk : L2.Takes X (fun cls d σ H => ∃ c, cls = exc c ∧ d = none ∧ WX c σ H)
  con : ∀ (i : Nat) (x : Str) (v : PV) (b : Bool), g.con i = some x → G.consts[i]? = some (v, b) → (x == ("__debug__" : Str)) = false ∧ ∃ u z, X.mg x = some u ∧ L2.RelV z u ∧ ConR X.K v b z
  blt : ∀ x ∈ g.blt, X.mg x = none
  tab : ∀ (i : Nat) (x : Str) (kvs : List (Int × PV)), g.tab i = some x → G.tabs[i]? = some kvs → (x == ("__debug__" : Str)) = false ∧ ∃ d, X.mg x = some (.ref d) ∧ TabR X.K d kvs
  fn : ∀ (i : Nat) (x : Str), g.fns i = some x → (x == ("__debug__" : Str)) = false ∧ ∃ k f fd ps, L2.Room k X.A ∧ L2.FnOk X.prog X.w X.K X.mg X.base (L2.CX X.prog X.w) k f fd ps (spF X.K T exc Φ i ps.length) ∧
    (∀ vs S, Φ i vs S ≠ .bad → vs.length = ps.length) ∧ X.mg x = some (.ref f) ∧ PySem.W.keepIn X.K (.ref f) = true ∧ L2.Binds X.K fd ps []
  cl : ∀ c, T.ok c → L2.Cls X.K (T.cls c) ∧ ∀ x ∈ T.fns, L2.NoAttr X.K (T.cls c) x
  me : ∀ (c m i : Nat) (x : Str), T.ok c → g.mts m = some x → G.meth c m = some i → x ∉ T.fns ∧ ∃ k f fd ps, L2.Room k X.A ∧ L2.FnOk X.prog X.w X.K X.mg X.base (L2.CX X.prog X.w) k f fd ps (spF X.K T exc Φ i ps.length) ∧
    (∀ vs S, Φ i vs S ≠ .bad → vs.length = ps.length) ∧ L2.Meth X.K (T.cls c) x f ∧ L2.Binds X.K fd ps []
  fl : ∀ (f : Nat) (x : Str), g.flds[f]? = some x → T.fns[f]? = some x
  nw : ∀ (c : Nat) (x : Str), g.cls c = some x → ∃ i, G.init c = some i ∧ T.ok c ∧ (x == ("__debug__" : Str)) = false ∧ ∃ k f fd ps, L2.Room (k + 1) X.A ∧ L2.FnOk X.prog X.w X.K X.mg X.base (L2.CX X.prog X.w) k f fd ps (spF X.K T exc Φ i ps.length) ∧
    (∀ vs S, Φ i vs S ≠ .bad → vs.length = ps.length) ∧ X.mg x = some (.ref (T.cls c)) ∧ L2.Mk X.K (T.cls c) f ∧ L2.Binds X.K fd ps []
  /-- the refusals: classes over ValueError or over others of their kind -/
  rz : ∀ (c : Nat) (x : Str), g.exs c = some x → (x == ("__debug__" : Str)) = false ∧ ∃ C, exc c = .ref C ∧ X.mg x = some (.ref C) ∧ PySem.W.keepIn X.K (.ref C) = true ∧
    PySem.W.excIn X.K C [.type "ValueError", .type "Exception", .type "BaseException", .type "object"] "ValueError.__new__" = true ∧ PySem.W.subIn X.K (.ref C) (.type "BaseException") = some true ∧ PySem.W.typeIn X.K (.ref C) = some (.type "type")
section
variable {X : L2.Cx} {T : Tb} {G : Prg} {Φ : Phi} {g : Sg} {sc : PySem.Scope} {N : List Str} {exc : Nat → Value} {WX : WXn}
theorem vis_sc {X : L2.Cx} {sc : PySem.Scope} (e : X.env.scope = sc) (x : Str) (h : visB sc x = true) : L2.Vis X.env.scope x := by
  rw [e]
  unfold visB at h
  unfold L2.Vis
  split at h <;> first | exact .inl (by assumption) | exact .inr (.inl (by assumption)) | exact .inr (.inr (by assumption)) | cases h
theorem loc_sc {X : L2.Cx} {sc : PySem.Scope} (e : X.env.scope = sc) (x : Str) (h : locB sc x = true) : L2.Loc X.env.scope x := by
  rw [e]
  unfold locB at h
  unfold L2.Loc
  split at h <;> first | exact .inl (by assumption) | exact .inr (by assumption) | cases h
theorem gl_sc {X : L2.Cx} {sc : PySem.Scope} (e : X.env.scope = sc) (x : Str) (h : glB sc x = true) : L2.Gl X x := by
  show X.env.scope.names.lookup x = some .globalImplicit
  rw [e]
  unfold glB at h
  split at h <;> first | assumption | cases h
theorem vis_of (C : Ctx X T G Φ g sc N exc WX) {x : Str} (h : visB sc x = true) : L2.Vis X.env.scope x := C.vis x h
theorem loc_of (C : Ctx X T G Φ g sc N exc WX) {x : Str} (h : locB sc x = true) : L2.Loc X.env.scope x := C.loc x h
theorem gl_of (C : Ctx X T G Φ g sc N exc WX) {x : Str} (h : glB sc x = true) : L2.Gl X x := C.gl x h
abbrev PEe (X : L2.Cx) (T : Tb) (WX : WXn) (e : PySem.Expr) (s : Bool) (ev : Env → Sto → Res) : Prop := L2.PE X e (TIe X.K T WX s ev)
def TIt (K : PySem.W.Frag) (T : Tb) (WX : WXn) (s : Bool) (ev : Env → Sto → TRes) : L2.TT := fun σ H Q => ∃ W S r A F, At K T W S r A F σ H ∧ match ev r S with
  | .ok b S' => ∀ W' H', Grow W H W' H' → Fr H H' F s → Ok K T W' H' S' F → Q b H'
  | .exc c S' => ∀ W' H', Grow W H W' H' → Fr H H' F s → Ok K T W' H' S' F → WX c σ H'
  | .bad => False
abbrev PTe (X : L2.Cx) (T : Tb) (WX : WXn) (e : PySem.Expr) (s : Bool) (ev : Env → Sto → TRes) : Prop := L2.PT X e (TIt X.K T WX s ev)
theorem pt_imp {X : L2.Cx} {e : PySem.Expr} {t t' : L2.TT} (h : L2.PT X e t) (i : ∀ σ H Q, t' σ H Q → t σ H Q) : L2.PT X e t' := ⟨fun pins s σ H Q I q => h.run pins s σ H Q I (i σ H Q q)⟩
theorem pw_imp {X : L2.Cx} {e : PySem.Expr} {t t' : L2.TT} (h : L2.PW X e t) (i : ∀ σ H Q, t' σ H Q → t σ H Q) : L2.PW X e t' := ⟨fun wh pins s σ H Q I q => h.run wh pins s σ H Q I (i σ H Q q)⟩
/-- an answer that stands -/
theorem at_lit {K : PySem.W.Frag} {s : Bool} {v : PV} {x : V} {σ : L2.St} {H : Hp} {Q : L2.VK} (hr : ∀ W, RepV K W H v x) (h : TIe K T WX s (fun _ S => .ok v .sh S) σ H Q) : Q x H := by
  obtain ⟨W, S, r, A, F, a, q⟩ := h
  exact q W H x (Grow.refl _ _) (Fr.refl _ _ _) (hr W) a.ok
theorem e_int {i : Int} {j : Nat} {pos : PySem.Pos} {s : Bool} : PEe X T WX (.Constant (.int i) j pos) s (fun _ S => .ok (.int i) .sh S) := pe_imp L2.pe_int fun _ _ _ h => at_lit (fun _ => by simp only [RepV]) h
theorem e_bl {i : Bool} {j : Nat} {pos : PySem.Pos} {s : Bool} : PEe X T WX (.Constant (.bool i) j pos) s (fun _ S => .ok (.bl i) .sh S) := pe_imp L2.pe_bl fun _ _ _ h => at_lit (fun _ => by simp only [RepV]) h
theorem e_non {j : Nat} {pos : PySem.Pos} {s : Bool} : PEe X T WX (.Constant .none j pos) s (fun _ S => .ok .non .sh S) := pe_imp L2.pe_non fun _ _ _ h => at_lit (fun _ => by simp only [RepV]) h
theorem e_str {x : List Nat} {j : Nat} {pos : PySem.Pos} {s : Bool} (ha : ascii x) : PEe X T WX (.Constant (.str (txt x)) j pos) s (fun _ S => .ok (.str x) .sh S) := pe_imp L2.pe_str fun _ _ _ h => at_lit (fun _ => by simp only [RepV]; exact ⟨trivial, ha⟩) h
theorem SlsR.get {K : PySem.W.Frag} {W : Wd} {H : Hp} : ∀ {r : Env} {os : List (Option V)} {A : List Addr} {i : Nat} {x : Sl}, SlsR K W H r os A → r[i]? = some x → ∃ o B, os[i]? = some o ∧ SlR K W H x o B ∧ ∀ a ∈ B, a ∈ A
  | [], _, _, _, _, _, e => by simp at e
  | y :: r, os, A, 0, x, h, e => by
    obtain ⟨o, t, B, C, rfl, rfl, h1, h2⟩ := h
    simp at e
    subst e
    exact ⟨o, B, rfl, h1, fun a ha => List.mem_append_left _ ha⟩
  | y :: r, os, A, i + 1, x, h, e => by
    obtain ⟨o, t, B, C, rfl, rfl, h1, h2⟩ := h
    obtain ⟨o', B', e1, q, k⟩ := SlsR.get (i := i) h2 (by simpa using e)
    exact ⟨o', B', by simpa using e1, q, fun a ha => List.mem_append_right _ (k a ha)⟩
theorem e_var (C : Ctx X T G Φ g sc N exc WX) {i : Nat} {x : Str} {pos : PySem.Pos} {s : Bool} (hi : N[i]? = some x) (hv : visB sc x = true) (hp : plain x = true) : PEe X T WX (.Name x pos) s (evE G Φ (.var i)) := by
  unfold plain at hp
  simp only [Bool.and_eq_true, Bool.not_eq_true'] at hp
  refine pe_imp (L2.pe_var (i := i) (by rw [C.hN]; exact hi) (vis_of C hv) hp.1 hp.2) fun σ H Q h => ?_
  obtain ⟨W, S, r, A, F, a, q⟩ := h
  simp only [evE] at q
  split at q
  · rename_i v hr
    obtain ⟨o, B, e1, ⟨_, z, rfl, rep⟩, _⟩ := a.sl.get hr
    exact ⟨z, e1, q W H z (Grow.refl _ _) (Fr.refl _ _ _) rep a.ok⟩
  · rename_i v hr
    obtain ⟨o, B, e1, ⟨b, rfl, rfl, rep⟩, hb⟩ := a.sl.get hr
    exact ⟨_, e1, q W H _ (Grow.refl _ _) (Fr.refl _ _ _) ⟨b, rfl, .inl ⟨rep, a.sub b (hb b (by simp))⟩⟩ a.ok⟩
  · exact q.elim
theorem e_glob (C : Ctx X T G Φ g sc N exc WX) {i : Nat} {x : Str} {pos : PySem.Pos} {s : Bool} (hi : g.con i = some x) (hv : glB sc x = true) : PEe X T WX (.Name x pos) s (evE G Φ (.glob i)) := by
  cases e : G.consts[i]? with
  | none =>
    refine ⟨fun pins s' σ H Q I h => ?_⟩
    obtain ⟨W, S, r, A, F, a, q⟩ := h
    simp only [evE, e] at q
    exact q.elim
  | some p =>
    obtain ⟨v, b⟩ := p
    obtain ⟨hd, u, z, hm, rz, cr⟩ := C.con i x v b hi e
    refine pe_imp (L2.pe_glob (gl_of C hv) hm rz hd) fun σ H Q h => ?_
    obtain ⟨W, S, r, A, F, a, q⟩ := h
    simp only [evE, e] at q
    cases b with
    | true => exact q W H z (Grow.refl _ _) (Fr.refl _ _ _) (cr W H) a.ok
    | false =>
      obtain ⟨b, xs, vs, rfl, rfl, w, r⟩ := (show ∀ W H, ∃ a xs vs, z = .ref a ∧ v = .tup xs ∧ WrT X.K a vs ∧ RepVs X.K W H xs vs from cr) W H
      exact q W H _ (Grow.refl _ _) (Fr.refl _ _ _) ⟨b, rfl, .inr ⟨xs, vs, rfl, w, r⟩⟩ a.ok
/-! ### operators -/
def opA : BOp → PySem.Operator
  | .add => .Add
  | .sub => .Sub
  | .mul => .Mult
  | .fdiv => .FloorDiv
  | .mod => .Mod
  | .pow => .Pow
theorem o_bin (op : BOp) : L2.OpR X (PySem.binaryOp (opA op)) (RC2 X.K T fun S x m y n => op2 op (m.isSh && n.isSh) (view S x) (view S y)) := by
  cases op with
  | add => exact o_add
  | sub => exact o_sub
  | mul => exact o_mul
  | fdiv => exact o_fdiv
  | mod => exact o_mod
  | pow => exact o_pow
theorem simp_and {a b : Bool} (h : (a && b) = true) : a = true ∧ b = true := by simpa using h
theorem e_bin {op : BOp} {a b : CE} {ea eb : PySem.Expr} {pos : PySem.Pos} (ha : PEe X T WX ea (simpE a) (evE G Φ a)) (hb : PEe X T WX eb (simpE b) (evE G Φ b)) : PEe X T WX (.BinOp ea (opA op) eb pos) (simpE (.bin op a b)) (evE G Φ (.bin op a b)) :=
  pe_imp (L2.pe_op (o_bin op) ha hb) fun σ H Q h => two (s := simpE a && simpE b) (f := fun S x m y n => op2 op (m.isSh && n.isSh) (view S x) (view S y)) (fun z => (simp_and z).1) (fun z => (simp_and z).2) σ H Q h
theorem ofB_O (S : Sto) (o : Option Bool) : ofB S o = ofO S (o.map fun b => (.bl b, .sh)) := by cases o <;> rfl
theorem ofV_O (S : Sto) (o : Option PV) : ofV S o = ofO S (o.map fun b => (b, .sh)) := by cases o <;> rfl
def opC : COp → PySem.CmpOp
  | .eq => .Eq
  | .ne => .NotEq
  | .lt => .Lt
  | .le => .LtE
  | .gt => .Gt
  | .ge => .GtE
  | .isN => .Is
  | .notN => .IsNot
  | .inn => .In
  | .nin => .NotIn
theorem o_cmp (hu : X.A.units + 65 < PySem.cLine) (op : COp) : L2.OpR X (PySem.compareOp (opC op)) (RC2 X.K T (fB (cmp2 op))) := by
  cases op with
  | eq => exact o_eq (by omega)
  | ne => exact o_ne (by omega)
  | lt => exact o_lt
  | le => exact o_le
  | gt => exact o_gt
  | ge => exact o_ge
  | isN => exact o_isN
  | notN => exact o_notN
  | inn => exact o_in hu
  | nin => exact o_nin hu
/-- no written set -/
def noSet : PySem.Expr → Bool
  | .Set _ _ _ => false
  | _ => true
theorem marks_of {op : PySem.CmpOp} {e : PySem.Expr} (h : noSet e = true) : PySem.behindInMarks op e = false := by
  cases e <;> first | rfl | cases h
theorem two_cmp {op : COp} {a b : CE} (σ : L2.St) (H : Hp) (Q : L2.VK) (h : TIe X.K T WX (simpE a && simpE b) (evE G Φ (.cmp op a b)) σ H Q) :
    TIe X.K T WX (simpE a) (evE G Φ a) σ H fun x H1 => TIe X.K T WX (simpE b) (evE G Φ b) σ H1 fun y H2 => RC2 X.K T (fB (cmp2 op)) x y H2 Q := by
  refine two (s := simpE a && simpE b) (f := fB (cmp2 op)) (fun z => (simp_and z).1) (fun z => (simp_and z).2) σ H Q ?_
  simp only [evE, ofB_O] at h
  exact h
theorem e_cmp (C : Ctx X T G Φ g sc N exc WX) {op : COp} {a b : CE} {ea eb : PySem.Expr} {pos : PySem.Pos} (hs : noSet eb = true) (ha : PEe X T WX ea (simpE a) (evE G Φ a)) (hb : PEe X T WX eb (simpE b) (evE G Φ b)) :
    PEe X T WX (.Compare ea [opC op] [eb] pos) (simpE (.cmp op a b)) (evE G Φ (.cmp op a b)) :=
  pe_imp (L2.pe_cmpR (o_cmp (T := T) (by have := C.units; omega) op) ha hb (marks_of hs)) fun σ H Q h => two_cmp σ H Q h
/-- as a test -/
theorem t_cmp (C : Ctx X T G Φ g sc N exc WX) {op : COp} {a b : CE} {ea eb : PySem.Expr} {pos : PySem.Pos} (hs : noSet eb = true) (ha : PEe X T WX ea (simpE a) (evE G Φ a)) (hb : PEe X T WX eb (simpE b) (evE G Φ b)) :
    PTe X T WX (.Compare ea [opC op] [eb] pos) false (evT G Φ (.cm op a b)) := by
  refine pt_imp (L2.pt_cmpR (o_cmp (T := T) (by have := C.units; omega) op) ha hb (marks_of hs)) fun σ H Q h => ?_
  refine two_cmp σ H _ ?_
  obtain ⟨W, S, r, A, F, a0, q⟩ := h
  refine ⟨W, S, r, A, F, a0, ?_⟩
  have ee : evT G Φ (.cm op a b) r S = toT (evE G Φ (.cmp op a b) r S) := by simp only [evT, evE]
  rw [ee] at q
  have weak : ∀ {H' : Hp}, Fr H H' F (simpE a && simpE b) → Fr H H' F false := fun f a o e z => f a o e (z.imp id fun z => nomatch z)
  cases e : evE G Φ (.cmp op a b) r S with
  | bad => rw [e] at q; exact q.elim
  | exc c S' => rw [e] at q; exact fun W' H' g' f' ok => q W' H' g' (weak f') ok
  | ok v m S' =>
    rw [e] at q
    cases v with
    | bl k =>
      intro W' H' x g' f' hx ok
      have hx : Held X.K W' H' F m (.bl k) x := hx
      cases m with
      | sh =>
        have hx : RepV X.K W' H' (.bl k) x := hx
        simp only [RepV] at hx
        subst hx
        exact ⟨k, rfl, q W' H' g' (weak f') ok⟩
      | own => obtain ⟨_, _, z⟩ := hx; exact z.elim
      | brf => obtain ⟨_, _, z⟩ := hx; exact z.elim
      | bor =>
        obtain ⟨_, _, z | ⟨_, _, z, _⟩⟩ := hx
        · exact z.1.elim
        · cases z
    | _ => exact q.elim
/-! ### one after another -/
theorem KE.step {K : PySem.W.Frag} {W W1 : Wd} {H H1 : Hp} {F : List Addr} {s s1 s2 : Bool} {σ : L2.St} {Q : L2.VK} {R : Res} (q : KE K T W H F s WX σ Q R) (gr : Grow W H W1 H1) (f : Fr H H1 F s1) (h1 : s = true → s1 = true) (h2 : s = true → s2 = true) : KE K T W1 H1 F s2 WX σ Q R := by
  cases R with
  | bad => exact q.elim
  | exc c S => exact fun W' H' g' f' ok => q W' H' (gr.trans g') (fun a o e z => f' a o (f a o e (z.imp id h1)) (z.imp id h2)) ok
  | ok v m S => exact fun W' H' x g' f' hx ok => q W' H' x (gr.trans g') (fun a o e z => f' a o (f a o e (z.imp id h1)) (z.imp id h2)) hx ok
theorem no_t {s : Bool} : (false = true) → s = true := fun z => nomatch z
theorem At.same {K : PySem.W.Frag} {W W1 : Wd} {S S1 : Sto} {r : Env} {A F : List Addr} {σ : L2.St} {H H1 : Hp} {s : Bool} (a : At K T W S r A F σ H) (gr : Grow W H W1 H1) (f : Fr H H1 F s) (ok : Ok K T W1 H1 S1 F) : At K T W1 S1 r A F σ H1 := a.next (B := []) gr f ok
theorem bl_held {K : PySem.W.Frag} {W : Wd} {H : Hp} {F : List Addr} {m : Md} {b : Bool} {x : V} (h : Held K W H F m (.bl b) x) : m = .sh ∧ x = .bl b := by
  cases m with
  | sh =>
    have h : RepV K W H (.bl b) x := h
    simp only [RepV] at h
    exact ⟨rfl, h⟩
  | own => obtain ⟨a, _, z⟩ := h; exact z.elim
  | brf => obtain ⟨a, _, z⟩ := h; exact z.elim
  | bor =>
    obtain ⟨a, _, z | ⟨_, _, z, _⟩⟩ := h
    · exact z.1.elim
    · cases z
theorem int_held {K : PySem.W.Frag} {W : Wd} {H : Hp} {F : List Addr} {m : Md} {b : Int} {x : V} (h : Held K W H F m (.int b) x) : m = .sh ∧ x = .int b := by
  cases m with
  | sh =>
    have h : RepV K W H (.int b) x := h
    simp only [RepV] at h
    exact ⟨rfl, h⟩
  | own => obtain ⟨a, _, z⟩ := h; exact z.elim
  | brf => obtain ⟨a, _, z⟩ := h; exact z.elim
  | bor =>
    obtain ⟨a, _, z | ⟨_, _, z, _⟩⟩ := h
    · exact z.1.elim
    · cases z
theorem e_and {a b : CE} {ea eb : PySem.Expr} {rest : List PySem.Expr} {pos : PySem.Pos} (ha : PEe X T WX ea (simpE a) (evE G Φ a)) (hb : PEe X T WX (.BoolOp .And (eb :: rest) pos) (simpE b) (evE G Φ b)) :
    PEe X T WX (.BoolOp .And (ea :: eb :: rest) pos) false (evE G Φ (.and a b)) := by
  refine pe_imp (L2.pe_and ha hb) fun σ H Q h => ?_
  obtain ⟨W, S, r, A, F, a0, q⟩ := h
  refine ⟨W, S, r, A, F, a0, ?_⟩
  simp only [evE] at q
  cases c1 : evE G Φ a r S with
  | bad => rw [c1] at q; exact q.elim
  | exc c S' => rw [c1] at q; exact fun W' H' g' f' ok => q W' H' g' (fun a o e z => f' a o e (z.imp id no_t)) ok
  | ok v m S1 =>
    rw [c1] at q
    simp only [Res.bind_ok] at q
    intro W1 H1 x g1 f1 hx ok1
    cases v with
    | bl c =>
      obtain ⟨rfl, rfl⟩ := bl_held hx
      refine ⟨c, rfl, ?_⟩
      cases c with
      | true => exact ⟨W1, S1, r, A, F, a0.same g1 f1 ok1, q.step g1 f1 no_t no_t⟩
      | false => exact q W1 H1 _ g1 (fun a o e z => f1 a o e (z.imp id no_t)) hx ok1
    | _ => exact q.elim
theorem e_or {a b : CE} {ea eb : PySem.Expr} {rest : List PySem.Expr} {pos : PySem.Pos} (ha : PEe X T WX ea (simpE a) (evE G Φ a)) (hb : PEe X T WX (.BoolOp .Or (eb :: rest) pos) (simpE b) (evE G Φ b)) :
    PEe X T WX (.BoolOp .Or (ea :: eb :: rest) pos) false (evE G Φ (.or a b)) := by
  refine pe_imp (L2.pe_or ha hb) fun σ H Q h => ?_
  obtain ⟨W, S, r, A, F, a0, q⟩ := h
  refine ⟨W, S, r, A, F, a0, ?_⟩
  simp only [evE] at q
  cases c1 : evE G Φ a r S with
  | bad => rw [c1] at q; exact q.elim
  | exc c S' => rw [c1] at q; exact fun W' H' g' f' ok => q W' H' g' (fun a o e z => f' a o e (z.imp id no_t)) ok
  | ok v m S1 =>
    rw [c1] at q
    simp only [Res.bind_ok] at q
    intro W1 H1 x g1 f1 hx ok1
    cases v with
    | bl c =>
      obtain ⟨rfl, rfl⟩ := bl_held hx
      refine ⟨c, rfl, ?_⟩
      cases c with
      | false => exact ⟨W1, S1, r, A, F, a0.same g1 f1 ok1, q.step g1 f1 no_t no_t⟩
      | true => exact q W1 H1 _ g1 (fun a o e z => f1 a o e (z.imp id no_t)) hx ok1
    | _ => exact q.elim
theorem e_not {a : CE} {ea : PySem.Expr} {pos : PySem.Pos} (ha : PEe X T WX ea (simpE a) (evE G Φ a)) : PEe X T WX (.UnaryOp .Not ea pos) false (evE G Φ (.not a)) := by
  refine pe_imp (L2.pe_not ha) fun σ H Q h => ?_
  obtain ⟨W, S, r, A, F, a0, q⟩ := h
  refine ⟨W, S, r, A, F, a0, ?_⟩
  simp only [evE] at q
  cases c1 : evE G Φ a r S with
  | bad => rw [c1] at q; exact q.elim
  | exc c S' => rw [c1] at q; exact fun W' H' g' f' ok => q W' H' g' (fun a o e z => f' a o e (z.imp id no_t)) ok
  | ok v m S1 =>
    rw [c1] at q
    simp only [Res.bind_ok] at q
    intro W1 H1 x g1 f1 hx ok1
    cases v with
    | bl c =>
      obtain ⟨rfl, rfl⟩ := bl_held hx
      exact ⟨c, rfl, q W1 H1 _ g1 (fun a o e z => f1 a o e (z.imp id no_t)) (by show RepV _ _ _ _ _; simp only [RepV]) ok1⟩
    | _ => exact q.elim
theorem e_neg {a : CE} {ea : PySem.Expr} {pos : PySem.Pos} (ha : PEe X T WX ea (simpE a) (evE G Φ a)) : PEe X T WX (.UnaryOp .USub ea pos) (simpE (.neg a)) (evE G Φ (.neg a)) := by
  refine pe_imp (L2.pe_un L2.un_neg ha) fun σ H Q h => ?_
  obtain ⟨W, S, r, A, F, a0, q⟩ := h
  refine ⟨W, S, r, A, F, a0, ?_⟩
  simp only [evE] at q
  cases c1 : evE G Φ a r S with
  | bad => rw [c1] at q; exact q.elim
  | exc c S' => rw [c1] at q; exact q
  | ok v m S1 =>
    rw [c1] at q
    simp only [Res.bind_ok] at q
    intro W1 H1 x g1 f1 hx ok1
    cases v with
    | int c =>
      obtain ⟨rfl, rfl⟩ := int_held hx
      exact ⟨c, rfl, q W1 H1 _ g1 f1 (by show RepV _ _ _ _ _; simp only [RepV]) ok1⟩
    | _ => exact q.elim
/-- a test, then one of two -/
theorem e_ite {c : CT} {a b : CE} {ec ea eb : PySem.Expr} {pos : PySem.Pos} (hc : PTe X T WX ec false (evT G Φ c)) (ha : PEe X T WX ea (simpE a) (evE G Φ a)) (hb : PEe X T WX eb (simpE b) (evE G Φ b)) :
    PEe X T WX (.IfExp ec ea eb pos) false (evE G Φ (.ite c a b)) := by
  refine pe_imp (L2.pe_ifExp hc ha hb) fun σ H Q h => ?_
  obtain ⟨W, S, r, A, F, a0, q⟩ := h
  refine ⟨W, S, r, A, F, a0, ?_⟩
  simp only [evE] at q
  cases c1 : evT G Φ c r S with
  | bad => rw [c1] at q; exact q.elim
  | exc c S' => rw [c1] at q; exact q
  | ok k S1 =>
    rw [c1] at q
    simp only [TRes.bind_ok] at q
    intro W1 H1 g1 f1 ok1
    cases k with
    | true => exact ⟨W1, S1, r, A, F, a0.same g1 f1 ok1, q.step g1 f1 no_t no_t⟩
    | false => exact ⟨W1, S1, r, A, F, a0.same g1 f1 ok1, q.step g1 f1 no_t no_t⟩
/-! ### rows of arguments -/
def TIa (K : PySem.W.Frag) (T : Tb) (WX : WXn) (ev : Env → Sto → Ress) : L2.TA := fun σ H Q => ∃ W S r A F, At K T W S r A F σ H ∧ match ev r S with
  | .ok vs S' => ∀ W' H' xs B, Grow W H W' H' → Fr H H' F false → SlsR K W' H' vs (xs.map some) B → Ok K T W' H' S' (B ++ F) → Q xs H'
  | .exc c S' => ∀ W' H', Grow W H W' H' → Fr H H' F false → Ok K T W' H' S' F → WX c σ H'
  | .bad => False
abbrev PAe (X : L2.Cx) (T : Tb) (WX : WXn) (es : List PySem.Expr) (ev : Env → Sto → Ress) : Prop := L2.PA X es (TIa X.K T WX ev)
theorem pa_imp {X : L2.Cx} {e : List PySem.Expr} {t t' : L2.TA} (h : L2.PA X e t) (i : ∀ σ H Q, t' σ H Q → t σ H Q) : L2.PA X e t' := ⟨fun p pins s σ H Q I q => h.run p pins s σ H Q I (i σ H Q q)⟩
theorem a_nil : PAe X T WX [] (evA G Φ .nil) := pa_imp L2.pa_nil fun σ H Q ⟨W, S, r, A, F, a0, q⟩ => q W H [] [] (Grow.refl _ _) (Fr.refl _ _ _) ⟨rfl, rfl⟩ a0.ok
def noStar : PySem.Expr → Bool
  | .Starred _ _ => false
  | _ => true
theorem star_of {e : PySem.Expr} {es : List PySem.Expr} {env : PySem.Env} (h : noStar e = true) : PySem.starEach (e :: es) env = (false, PySem.eval e env) :: PySem.starEach es env := by
  cases e <;> first | rfl | cases h
theorem a_cons {e : CE} {es : CEs} {pe : PySem.Expr} {pes : List PySem.Expr} (hs : noStar pe = true) (he : PEe X T WX pe (simpE e) (evE G Φ e)) (hes : PAe X T WX pes (evA G Φ es)) : PAe X T WX (pe :: pes) (evA G Φ (.cons e es)) := by
  refine pa_imp (L2.pa_cons he hes (star_of hs)) fun σ H Q h => ?_
  obtain ⟨W, S, r, A, F, a0, q⟩ := h
  refine ⟨W, S, r, A, F, a0, ?_⟩
  simp only [evA] at q
  cases c1 : evE G Φ e r S with
  | bad => rw [c1] at q; exact q.elim
  | exc c S' => rw [c1] at q; exact fun W' H' g' f' ok => q W' H' g' (fun a o e z => f' a o e (z.imp id no_t)) ok
  | ok v m S1 =>
    rw [c1] at q
    simp only [Res.bindA_ok] at q
    intro W1 H1 x g1 f1 hx ok1
    refine ⟨W1, S1, r, A, _, a0.next g1 f1 ok1, ?_⟩
    have w1 : Fr H H1 F false := fun a o e z => f1 a o e (z.imp id no_t)
    cases c2 : evA G Φ es r S1 with
    | bad => rw [c2] at q; exact q.elim
    | exc c S' =>
      rw [c2] at q
      exact fun W' H' g' f' ok => q W' H' (g1.trans g') (w1.trans f' id id) ok.drop
    | ok vs S2 =>
      rw [c2] at q
      simp only [Ress.bindA_ok] at q
      intro W2 H2 xs B g2 f2 hxs ok2
      cases m with
      | sh =>
        refine q W2 H2 (x :: xs) B (g1.trans g2) (w1.trans f2 id id) ?_ ok2
        exact ⟨some x, _, [], B, rfl, rfl, ⟨rfl, x, rfl, RepV.grow g2 _ _ hx⟩, hxs⟩
      | own =>
        obtain ⟨a, rfl, ow⟩ := hx
        obtain ⟨o, e⟩ := ow.some
        refine q W2 H2 (.ref a :: xs) ([a] ++ B) (g1.trans g2) (w1.trans f2 id id) ⟨_, _, [a], B, rfl, rfl, ⟨a, rfl, rfl, ow.grow g2 (by rw [e, f2 a o e (.inl (by simp [ownA]))])⟩, hxs⟩ ?_
        refine ok2.perm ?_
        show (B ++ ([a] ++ F)).Perm (([a] ++ B) ++ F)
        rw [← List.append_assoc]
        exact List.perm_append_comm.append_right F
      | bor => exact q.elim
      | brf => exact q.elim
end
end SR

set_option maxRecDepth 100000
/-! Displays, items, slices, calls. -/
namespace SR
open PySem (Addr Str Value PyData Heap)
open L2 (V Hp HO Key upd Rd SqL SqT)
def Wd.addL (W : Wd) (B : List Addr) : Wd := ⟨W.m, fun a => W.sh a ∨ a ∈ B⟩
section
variable {K : PySem.W.Frag} {T : Tb} {W : Wd} {H : Hp} {S : Sto} {F B : List Addr}
theorem Grow.addL : Grow W H (W.addL B) H := ⟨⟨[], (List.append_nil _).symm⟩, fun _ h => .inl h, fun _ _ _ _ h => h, fun _ _ _ h => h, fun _ _ _ _ h => h⟩
theorem Ok.addL (ok : Ok K T W H S (B ++ F)) : Ok K T (W.addL B) H S F := by
  obtain ⟨A, h1, h2, h3⟩ := ok.st
  rw [List.append_assoc] at h2
  obtain ⟨n1, n2, n3⟩ := List.nodup_append.mp h2
  refine ⟨⟨A, h1.grow Grow.addL fun _ _ => rfl, n2, fun a ha => ?_⟩, fun a h => ?_⟩
  · obtain ⟨q, z⟩ := h3 a (by simp at ha ⊢; exact .inr ha)
    refine ⟨q, fun y => ?_⟩
    rcases y with y | y
    · exact z y
    · exact n3 a y a ha rfl
  · rcases h with h | h
    · exact ok.shd a h
    · obtain ⟨o, e, _⟩ := (h3 a (by simp [h])).1
      exact ⟨o, e⟩
theorem OwnR.shared {v : PV} {a : Addr} (h : OwnR K W H v a) (ha : a ∈ B) : RepV K (W.addL B) H v (.ref a) := by
  cases v with
  | lst xs =>
    obtain ⟨vs, e, r⟩ := h
    simp only [RepV]
    exact ⟨a, vs, rfl, ⟨.inr ha, .inl e⟩, r.grow Grow.addL _ _⟩
  | dct kvs =>
    simp only [RepV]
    exact ⟨a, rfl, .inr ha, h.imp (fun ⟨ks, e, r⟩ => ⟨ks, .inl e, r.grow Grow.addL _ _⟩) (fun ⟨ks, e, r⟩ => ⟨ks, .inl e, r.grow Grow.addL _ _⟩)⟩
  | _ => exact h.elim
theorem share_reps : ∀ {vs : List Sl} {xs : List V} {C : List Addr}, (∀ v ∈ vs, v ≠ .un) → SlsR K W H vs (xs.map some) C → (∀ a ∈ C, a ∈ B) → RepVs K (W.addL B) H (vs.map shOf) xs
  | [], xs, C, _, h, _ => by
    obtain ⟨e, _⟩ := h
    cases xs with
    | nil => simp [RepVs]
    | cons => cases e
  | s :: vs, xs, C, hn, h, hc => by
    obtain ⟨o, t, D, E, e, rfl, h1, h2⟩ := h
    cases xs with
    | nil => cases e
    | cons x xs =>
      simp only [List.map_cons, List.cons.injEq] at e
      obtain ⟨rfl, rfl⟩ := e
      simp only [List.map_cons, RepVs]
      refine ⟨x, xs, rfl, ?_, share_reps (fun v hv => hn v (List.mem_cons_of_mem _ hv)) h2 fun a ha => hc a (List.mem_append_right _ ha)⟩
      cases s with
      | un => exact absurd rfl (hn .un List.mem_cons_self)
      | sh v =>
        obtain ⟨_, y, e, r⟩ := h1
        cases e
        exact r.grow Grow.addL _ _
      | own v =>
        obtain ⟨a, rfl, e, r⟩ := h1
        cases e
        exact r.shared (hc a (by simp))
theorem evA_un {G : Prg} {Φ : Phi} : ∀ (es : CEs) (r : Env) (S : Sto) (vs : List Sl) (S' : Sto), evA G Φ es r S = .ok vs S' → ∀ v ∈ vs, v ≠ .un
  | .nil, r, S, vs, S', h, v, hv => by
    simp only [evA, Ress.ok.injEq] at h
    rw [← h.1] at hv
    cases hv
  | .cons e es, r, S, vs, S', h, v, hv => by
    simp only [evA] at h
    cases c1 : evE G Φ e r S with
    | bad => rw [c1] at h; cases h
    | exc c S' => rw [c1] at h; cases h
    | ok x m S1 =>
      rw [c1] at h
      simp only [Res.bindA_ok] at h
      cases c2 : evA G Φ es r S1 with
      | bad => rw [c2] at h; cases h
      | exc c S' => rw [c2] at h; cases h
      | ok ws S2 =>
        rw [c2] at h
        simp only [Ress.bindA_ok] at h
        have ih := evA_un es r S1 ws S2 c2
        cases m <;> simp at h
        all_goals
          obtain ⟨rfl, rfl⟩ := h
          rcases List.mem_cons.mp hv with rfl | hv
          · exact fun z => nomatch z
          · exact ih v hv
theorem evA_len {G : Prg} {Φ : Phi} : ∀ (es : CEs) (r : Env) (S : Sto) (vs : List Sl) (S' : Sto), evA G Φ es r S = .ok vs S' → vs.length = es.len
  | .nil, r, S, vs, S', h => by
    simp only [evA, Ress.ok.injEq] at h
    rw [← h.1]
    rfl
  | .cons e es, r, S, vs, S', h => by
    simp only [evA] at h
    cases c1 : evE G Φ e r S with
    | bad => rw [c1] at h; cases h
    | exc c S' => rw [c1] at h; cases h
    | ok x m S1 =>
      rw [c1] at h
      simp only [Res.bindA_ok] at h
      cases c2 : evA G Φ es r S1 with
      | bad => rw [c2] at h; cases h
      | exc c S' => rw [c2] at h; cases h
      | ok ws S2 =>
        rw [c2] at h
        simp only [Ress.bindA_ok] at h
        have ih := evA_len es r S1 ws S2 c2
        cases m <;> simp at h
        all_goals
          obtain ⟨rfl, rfl⟩ := h
          simp [CEs.len, ih]
theorem SlsR.len : ∀ {vs : List Sl} {os : List (Option V)} {C : List Addr}, SlsR K W H vs os C → os.length = vs.length
  | [], os, C, h => by
    obtain ⟨rfl, _⟩ := h
    rfl
  | s :: vs, os, C, h => by
    obtain ⟨o, t, D, E, rfl, rfl, h1, h2⟩ := h
    simp [SlsR.len h2]
end
section
variable {X : L2.Cx} {T : Tb} {G : Prg} {Φ : Phi} {g : Sg} {sc : PySem.Scope} {N : List Str} {exc : Nat → Value} {WX : WXn}
theorem e_tup {es : CEs} {pes : List PySem.Expr} {k : Nat} {pos : PySem.Pos} (h : PAe X T WX pes (evA G Φ es)) (hl : es.len ≤ 1000) : PEe X T WX (.Tuple pes k pos) false (evE G Φ (.tup es)) := by
  refine pe_imp (L2.pe_tup h) fun σ H Q h => ?_
  obtain ⟨W, S, r, A, F, a0, q⟩ := h
  refine ⟨W, S, r, A, F, a0, ?_⟩
  simp only [evE] at q
  cases c1 : evA G Φ es r S with
  | bad => rw [c1] at q; exact q.elim
  | exc c S' => rw [c1] at q; exact q
  | ok vs S1 =>
    rw [c1] at q
    simp only [Ress.bind_ok] at q
    intro W1 H1 xs B g1 f1 hx ok1
    have rs := share_reps (B := B) (evA_un es r S vs S1 c1) hx fun a ha => ha
    have ok2 := ok1.addL
    refine ⟨?_, fun p np => ?_⟩
    · have e := hx.len
      rw [List.length_map, evA_len es r S vs S1 c1] at e
      rw [e]
      exact Nat.le_trans hl (by decide)
    · refine fin_tup ok2 np rs fun W' H' z g' f' hz ok' => q W' H' z ((g1.trans Grow.addL).trans g') (fun a o e hh => f' a o (f1 a o e hh) (.inr rfl)) hz ok'
theorem e_lst {es : CEs} {pes : List PySem.Expr} {pos : PySem.Pos} (h : PAe X T WX pes (evA G Φ es)) (hl : es.len ≤ 1000) : PEe X T WX (.List pes pos) false (evE G Φ (.lst es)) := by
  refine pe_imp (L2.pe_lst h) fun σ H Q h => ?_
  obtain ⟨W, S, r, A, F, a0, q⟩ := h
  refine ⟨W, S, r, A, F, a0, ?_⟩
  simp only [evE] at q
  cases c1 : evA G Φ es r S with
  | bad => rw [c1] at q; exact q.elim
  | exc c S' => rw [c1] at q; exact q
  | ok vs S1 =>
    rw [c1] at q
    simp only [Ress.bind_ok] at q
    intro W1 H1 xs B g1 f1 hx ok1
    have rs := share_reps (B := B) (evA_un es r S vs S1 c1) hx fun a ha => ha
    have ok2 := ok1.addL
    refine ⟨?_, fun p np => ?_⟩
    · have e := hx.len
      rw [List.length_map, evA_len es r S vs S1 c1] at e
      rw [e]
      exact Nat.le_trans hl (by decide)
    · refine fin_lst ok2 np rs fun W' H' z g' f' hz ok' => q W' H' z ((g1.trans Grow.addL).trans g') (fun a o e hh => f' a o (f1 a o e hh) (.inr rfl)) hz ok'
theorem e_dnw {pos : PySem.Pos} {s : Bool} : PEe X T WX (.Dict [] [] pos) s (evE G Φ .dnw) := by
  refine pe_imp L2.pe_dnewK fun σ H Q h => ?_
  obtain ⟨W, S, r, A, F, a0, q⟩ := h
  intro p np
  exact q W (upd H p (.dK [])) (.ref p) (Grow.laid np) (Fr.laid np) ⟨p, rfl, .inl ⟨[], L2.upd_same, by simp only [RepK]⟩⟩ (a0.ok.laid np)
def noSlice : PySem.Expr → Bool
  | .Slice _ _ _ _ => false
  | _ => true
theorem plain_of {e : PySem.Expr} (h : noSlice e = true) : L2.PlainIx e := by
  intro o i
  cases e <;> first | rfl | cases h
theorem e_sub (C : Ctx X T G Φ g sc N exc WX) {a b : CE} {ea eb : PySem.Expr} {pos : PySem.Pos} (hs : noSlice eb = true) (ha : PEe X T WX ea (simpE a) (evE G Φ a)) (hb : PEe X T WX eb (simpE b) (evE G Φ b)) :
    PEe X T WX (.Subscript ea eb pos) (simpE (.sub a b)) (evE G Φ (.sub a b)) := by
  refine pe_imp (L2.pe_ix (o_item (T := T) (by have := C.units; omega)) ha hb (plain_of hs)) fun σ H Q h => ?_
  refine two (s := simpE a && simpE b) (f := fIt) (fun z => (simp_and z).1) (fun z => (simp_and z).2) σ H Q ?_
  have e : evE G Φ (.sub a b) = fun r S => (evE G Φ a r S).bindK (simpE b) fun x m S1 => (evE G Φ b r S1).bind fun y n S2 => ofO S2 (fIt S2 x m y n) := by
    funext r S
    simp only [evE, fIt]
    congr 1
    funext x m S1
    congr 1
    funext y n S2
    split
    · rw [ofV_O]
    · rfl
  rw [e] at h
  exact h
/-- a slice's reading from two or three parts -/
abbrev fSl (mk : Int → Option Int × Option Int) : Sto → PV → Md → PV → Md → Option (PV × Md) := fun S x m y _ => match y with
  | .int i => slice (mk i).1 (mk i).2 m.isSh (view S x)
  | _ => none
theorem rc_sl {K : PySem.W.Frag} {mk : Int → Option Int × Option Int} {x y : V} {H : Hp} {Q : L2.VK} (h : RC2 K T (fSl mk) x y H Q) : ∃ i, y = .int i ∧ RC1 K T (fun S v m => slice (mk i).1 (mk i).2 m.isSh (view S v)) x H Q := by
  obtain ⟨W, S, F, v1, m1, v2, m2, v, m, h1, h2, ok, e, hf, q⟩ := h
  cases v2 with
  | int i =>
    obtain ⟨_, rfl⟩ := int_held h2
    exact ⟨i, rfl, W, S, F, v1, m1, v, m, h1, ok, e, hf, q⟩
  | _ => cases e
theorem tie_mono {K : PySem.W.Frag} {s : Bool} {ev : Env → Sto → Res} {σ : L2.St} {H : Hp} {Q Q' : L2.VK} (hq : ∀ x H1, Q x H1 → Q' x H1) (h : TIe K T WX s ev σ H Q) : TIe K T WX s ev σ H Q' := by
  obtain ⟨W, S, r, A, F, a0, q⟩ := h
  refine ⟨W, S, r, A, F, a0, ?_⟩
  cases c : ev r S with
  | bad => rw [c] at q; exact q
  | exc c' S' => rw [c] at q; exact q
  | ok v m S' => rw [c] at q; exact fun W' H' x g' f' hx ok => hq _ _ (q W' H' x g' f' hx ok)
theorem e_slcL {a b : CE} {ea eb : PySem.Expr} {pos p2 : PySem.Pos} (ha : PEe X T WX ea (simpE a) (evE G Φ a)) (hb : PEe X T WX eb (simpE b) (evE G Φ b)) :
    PEe X T WX (.Subscript ea (.Slice (some eb) none none p2) pos) false (evE G Φ (.slcL a b)) := by
  refine pe_imp (L2.pe_slice (o_slice (T := T)) ha (L2.po_some hb) L2.po_none) fun σ H Q h => ?_
  have e : evE G Φ (.slcL a b) = fun r S => (evE G Φ a r S).bindK (simpE b) fun x m S1 => (evE G Φ b r S1).bind fun y n S2 => ofO S2 (fSl (fun i => (some i, none)) S2 x m y n) := by
    funext r S
    simp only [evE, fSl]
    congr 1
    funext x m S1
    congr 1
    funext y n S2
    cases y <;> rfl
  rw [e] at h
  have t := two (s := false) (s1 := simpE a) (s2 := simpE b) (f := fSl fun i => (some i, none)) no_t no_t σ H Q h
  exact tie_mono (fun x H1 t => tie_mono (fun y H2 q => rc_sl q) t) t
theorem e_slcU {a b : CE} {ea eb : PySem.Expr} {pos p2 : PySem.Pos} (ha : PEe X T WX ea (simpE a) (evE G Φ a)) (hb : PEe X T WX eb (simpE b) (evE G Φ b)) :
    PEe X T WX (.Subscript ea (.Slice none (some eb) none p2) pos) false (evE G Φ (.slcU a b)) := by
  refine pe_imp (L2.pe_slice (o_slice (T := T)) ha L2.po_none (L2.po_some hb)) fun σ H Q h => ?_
  have e : evE G Φ (.slcU a b) = fun r S => (evE G Φ a r S).bindK (simpE b) fun x m S1 => (evE G Φ b r S1).bind fun y n S2 => ofO S2 (fSl (fun i => (none, some i)) S2 x m y n) := by
    funext r S
    simp only [evE, fSl]
    congr 1
    funext x m S1
    congr 1
    funext y n S2
    cases y <;> rfl
  rw [e] at h
  have t := two (s := false) (s1 := simpE a) (s2 := simpE b) (f := fSl fun i => (none, some i)) no_t no_t σ H Q h
  exact tie_mono (fun x H1 t => tie_mono (fun y H2 q => rc_sl q) t) t
/-! ### calls -/
theorem SlsR.append {K : PySem.W.Frag} {W : Wd} {H : Hp} : ∀ {vs ws : List Sl} {os ps : List (Option V)} {A B : List Addr}, SlsR K W H vs os A → SlsR K W H ws ps B → SlsR K W H (vs ++ ws) (os ++ ps) (A ++ B)
  | [], ws, os, ps, A, B, h, h' => by
    obtain ⟨rfl, rfl⟩ := h
    exact h'
  | s :: vs, ws, os, ps, A, B, h, h' => by
    obtain ⟨o, t, D, E, rfl, rfl, h1, h2⟩ := h
    exact ⟨o, t ++ ps, D, E ++ B, rfl, by simp, h1, SlsR.append h2 h'⟩
/-- from the evaluator's word about a call to the def's promise -/
theorem call_sp {K : PySem.W.Frag} {W W1 : Wd} {S1 : Sto} {F B : List Addr} {H H1 : Hp} {σ : L2.St} {Q : L2.VK} {f n : Nat} {vs : List Sl} {xs : List V} {E : L2.XK} (hE : ∀ c H', WX c σ H' → E (exc c) none H') (hn : ∀ vs S, Φ f vs S ≠ .bad → vs.length = n)
    (hfin : ∀ vs S v m S', Φ f vs S = .ok v m S' → m.fin = true) (q : KE K T W H F false WX σ Q (Φ f vs S1)) (g1 : Grow W H W1 H1) (f1 : Fr H H1 F false) (hx : SlsR K W1 H1 vs (xs.map some) B) (ok1 : Ok K T W1 H1 S1 (B ++ F)) : spF K T exc Φ f n xs H1 Q E := by
  cases c : Φ f vs S1 with
  | bad => rw [c] at q; exact q.elim
  | exc e S' =>
    rw [c] at q
    have e1 := hx.len
    rw [List.length_map, hn vs S1 (by rw [c]; exact fun z => nomatch z)] at e1
    refine ⟨e1, W1, S1, B, F, vs, hx, ok1, ?_⟩
    rw [c]
    exact fun W' H' g' f' ok => hE e H' (q W' H' (g1.trans g') (fun a o e z => f' a o (f1 a o e z) z) ok)
  | ok v m S' =>
    rw [c] at q
    have e1 := hx.len
    rw [List.length_map, hn vs S1 (by rw [c]; exact fun z => nomatch z)] at e1
    refine ⟨e1, W1, S1, B, F, vs, hx, ok1, ?_⟩
    rw [c]
    exact ⟨hfin _ _ _ _ _ c, fun W' H' x g' f' hx ok => q W' H' x (g1.trans g') (fun a o e z => f' a o (f1 a o e z) z) hx ok⟩
theorem pass_of (C : Ctx X T G Φ g sc N exc WX) (σ : L2.St) : L2.PassesAt (L2.CX X.prog X.w) X σ (fun cls d H => ∃ c, cls = exc c ∧ d = none ∧ WX c σ H) := L2.passAt C.tk σ
def noStars : List PySem.Expr → Bool
  | [] => true
  | e :: es => noStar e && noStars es
theorem plainA : ∀ {es : List PySem.Expr} {env : PySem.Env} {pos : PySem.Pos}, noStars es = true → (PySem.backTo pos (PySem.starEach es env)).any (·.1) = false := by
  intro es env pos h
  have key : ∀ es : List PySem.Expr, noStars es = true → ∀ p ∈ PySem.starEach es env, p.1 = false := by
    intro es
    induction es with
    | nil => intro _ p hp; cases hp
    | cons e es ih =>
      intro h p hp
      simp only [noStars, Bool.and_eq_true] at h
      rw [star_of h.1] at hp
      rcases List.mem_cons.mp hp with rfl | hp
      · rfl
      · exact ih h.2 p hp
  rw [List.any_eq_false]
  intro p hp
  have : p.1 ∈ (PySem.starEach es env).map (·.1) := by
    have e : (PySem.backTo pos (PySem.starEach es env)).map (·.1) = (PySem.starEach es env).map (·.1) := by
      unfold PySem.backTo
      rw [List.map_map]
      rfl
    rw [← e]
    exact List.mem_map_of_mem hp
  obtain ⟨p', h1, h2⟩ := List.mem_map.mp this
  rw [← h2, key es h p' h1]
  exact Bool.false_ne_true
theorem e_call (C : Ctx X T G Φ g sc N exc WX) (hfin : ∀ f vs S v m S', Φ f vs S = .ok v m S' → m.fin = true) {f : Nat} {x : Str} {es : CEs} {pe : PySem.Expr} {pes : List PySem.Expr} {p pos : PySem.Pos} (hx : g.fns f = some x) (hg : glB sc x = true) (hst : noStars (pe :: pes) = true)
    (h : PAe X T WX (pe :: pes) (evA G Φ es)) : PEe X T WX (.Call (.Name x p) (pe :: pes) [] pos) false (evE G Φ (.call f es)) := by
  obtain ⟨hd, k, fa, fd, ps, hr, F, hn, hm, hk, hb⟩ := C.fn f x hx
  have h1 := hst
  simp only [noStars, Bool.and_eq_true] at h1
  refine pe_imp (L2.pe_callSD (E := fun σ cls d H => ∃ c, cls = exc c ∧ d = none ∧ WX c σ H) F hr (gl_of C hg) hm hk hb .nil (pass_of C) h hd (star_of h1.1) (plainA h1.2)) fun σ H Q h => ?_
  obtain ⟨W, S, r, A, F', a0, q⟩ := h
  refine ⟨W, S, r, A, F', a0, ?_⟩
  simp only [evE] at q
  cases c1 : evA G Φ es r S with
  | bad => rw [c1] at q; exact q.elim
  | exc c S' => rw [c1] at q; exact q
  | ok vs S1 =>
    rw [c1] at q
    simp only [Ress.bind_ok] at q
    intro W1 H1 xs B g1 f1 hx ok1
    rw [List.append_nil]
    exact call_sp (fun c H' w => ⟨c, rfl, rfl, w⟩) hn (hfin f) q g1 f1 hx ok1
end
end SR

set_option maxRecDepth 100000
/-! Built-in functions by values. -/
namespace SR
open PySem (Addr Str Value PyData Heap)
open L2 (V Hp HO Key upd Rd SqL SqT)
/-- rows that may be read -/
def Vws (K : PySem.W.Frag) (W : Wd) (H : Hp) : List PV → List V → Prop
  | [], xs => xs = []
  | u :: us, xs => ∃ x r, xs = x :: r ∧ Vw K W H u x ∧ Vws K W H us r
section
variable {K : PySem.W.Frag} {T : Tb} {W : Wd} {H : Hp} {S : Sto}
theorem vws_of {B : List Addr} (ok : ∃ F, Ok K T W H S F) : ∀ {vs : List Sl} {xs : List V} {C : List Addr}, (∀ v ∈ vs, v ≠ .un) → SlsR K W H vs (xs.map some) C → Vws K W H (vs.map fun v => view S (shOf v)) xs
  | [], xs, C, _, h => by
    obtain ⟨e, _⟩ := h
    cases xs with
    | nil => rfl
    | cons => cases e
  | s :: vs, xs, C, hn, h => by
    obtain ⟨o, t, D, E, e, rfl, h1, h2⟩ := h
    cases xs with
    | nil => cases e
    | cons x xs =>
      simp only [List.map_cons, List.cons.injEq] at e
      obtain ⟨rfl, rfl⟩ := e
      refine ⟨x, xs, rfl, ?_, vws_of (B := B) ok (fun v hv => hn v (List.mem_cons_of_mem _ hv)) h2⟩
      cases s with
      | un => exact absurd rfl (hn .un List.mem_cons_self)
      | sh v =>
        obtain ⟨_, y, e, r⟩ := h1
        cases e
        exact Held.vw (m := .sh) (F := []) r ok
      | own v =>
        obtain ⟨a, rfl, e, r⟩ := h1
        cases e
        exact Held.vw (m := .own) (F := []) ⟨a, rfl, r⟩ ok
theorem ints_reps : ∀ {xs : List PV} {ns : List Int} {vs : List V}, intsOf xs = some ns → RepVs K W H xs vs → vs = ns.map V.int
  | [], ns, vs, e, h => by
    simp only [RepVs] at h
    simp [intsOf] at e
    subst h e
    rfl
  | x :: xs, ns, vs, e, h => by
    simp only [RepVs] at h
    obtain ⟨v, r, rfl, h1, h2⟩ := h
    cases x with
    | int i =>
      simp only [intsOf] at e
      obtain ⟨q, e1, rfl⟩ := Option.map_eq_some_iff.mp e
      simp only [RepV] at h1
      subst h1
      rw [ints_reps e1 h2]
      rfl
    | _ => simp [intsOf] at e
theorem bools_reps : ∀ {xs : List PV} {ns : List Bool} {vs : List V}, boolsOf xs = some ns → RepVs K W H xs vs → vs = ns.map V.bl
  | [], ns, vs, e, h => by
    simp only [RepVs] at h
    simp [boolsOf] at e
    subst h e
    rfl
  | x :: xs, ns, vs, e, h => by
    simp only [RepVs] at h
    obtain ⟨v, r, rfl, h1, h2⟩ := h
    cases x with
    | bl i =>
      simp only [boolsOf] at e
      obtain ⟨q, e1, rfl⟩ := Option.map_eq_some_iff.mp e
      simp only [RepV] at h1
      subst h1
      rw [bools_reps e1 h2]
      rfl
    | _ => simp [boolsOf] at e
theorem reps_ints : ∀ ns : List Int, RepVs K W H (ns.map .int) (ns.map V.int)
  | [] => by simp [RepVs]
  | n :: ns => by simp only [List.map_cons, RepVs]; exact ⟨_, _, rfl, by simp only [RepV], reps_ints ns⟩
end
/-! ### plain laws -/
theorem minI_none : ∀ {ns : List Int}, minI ns = none → ns = []
  | [], _ => rfl
  | x :: r, h => by
    simp only [minI] at h
    split at h <;> cases h
theorem minI_spec : ∀ {ns : List Int} {m : Int}, minI ns = some m → m ∈ ns ∧ ∀ y ∈ ns, m ≤ y
  | [], m, h => by cases h
  | x :: r, m, h => by
    simp only [minI] at h
    split at h
    · rename_i e
      cases h
      rw [minI_none e]
      simp
    · rename_i k e
      obtain ⟨h1, h2⟩ := minI_spec e
      cases h
      split
      · rename_i hl
        refine ⟨List.mem_cons_of_mem _ h1, fun y hy => ?_⟩
        rcases List.mem_cons.mp hy with rfl | hy
        · omega
        · exact h2 y hy
      · rename_i hl
        refine ⟨List.mem_cons_self, fun y hy => ?_⟩
        rcases List.mem_cons.mp hy with rfl | hy
        · omega
        · have := h2 y hy; omega
theorem maxI_none : ∀ {ns : List Int}, maxI ns = none → ns = []
  | [], _ => rfl
  | x :: r, h => by
    simp only [maxI] at h
    split at h <;> cases h
theorem maxI_spec : ∀ {ns : List Int} {m : Int}, maxI ns = some m → m ∈ ns ∧ ∀ y ∈ ns, y ≤ m
  | [], m, h => by cases h
  | x :: r, m, h => by
    simp only [maxI] at h
    split at h
    · rename_i e
      cases h
      rw [maxI_none e]
      simp
    · rename_i k e
      obtain ⟨h1, h2⟩ := maxI_spec e
      cases h
      split
      · rename_i hl
        refine ⟨List.mem_cons_of_mem _ h1, fun y hy => ?_⟩
        rcases List.mem_cons.mp hy with rfl | hy
        · omega
        · exact h2 y hy
      · rename_i hl
        refine ⟨List.mem_cons_self, fun y hy => ?_⟩
        rcases List.mem_cons.mp hy with rfl | hy
        · omega
        · have := h2 y hy; omega
section
variable {α : Type} {le : α → α → Bool}
theorem insertBy_perm (x : α) : ∀ l : List α, (insertBy le x l).Perm (x :: l)
  | [] => .refl _
  | y :: r => by
    simp only [insertBy]
    split
    · exact .refl _
    · exact (List.Perm.cons y (insertBy_perm x r)).trans (List.Perm.swap x y r)
theorem sortBy_perm : ∀ l : List α, (sortBy le l).Perm l
  | [] => .refl _
  | x :: r => (insertBy_perm x _).trans ((sortBy_perm r).cons x)
theorem insertBy_sorted (tot : ∀ a b, le a b = false → le b a = true) (tr : ∀ a b c, le a b = true → le b c = true → le a c = true) (x : α) : ∀ l : List α, l.Pairwise (fun a b => le a b = true) → (insertBy le x l).Pairwise fun a b => le a b = true
  | [], _ => by simp [insertBy]
  | y :: r, h => by
    simp only [insertBy]
    obtain ⟨h1, h2⟩ := List.pairwise_cons.mp h
    split
    · rename_i hx
      refine List.pairwise_cons.mpr ⟨fun z hz => ?_, h⟩
      rcases List.mem_cons.mp hz with rfl | hz
      · exact hx
      · exact tr _ _ _ hx (h1 z hz)
    · rename_i hx
      refine List.pairwise_cons.mpr ⟨fun z hz => ?_, insertBy_sorted tot tr x r h2⟩
      rcases List.mem_cons.mp ((insertBy_perm x r).mem_iff.mp hz) with rfl | hz
      · exact tot _ _ (by simpa using hx)
      · exact h1 z hz
theorem sortBy_sorted (tot : ∀ a b, le a b = false → le b a = true) (tr : ∀ a b c, le a b = true → le b c = true → le a c = true) : ∀ l : List α, (sortBy le l).Pairwise fun a b => le a b = true
  | [] => .nil
  | x :: r => insertBy_sorted tot tr x _ (sortBy_sorted tot tr r)
end
theorem sorted_ints {ns ns' : List Int} (p : ns'.Perm ns) (h : ns'.Pairwise (· ≤ ·)) : sortBy (fun a b => decide (a ≤ b)) ns = ns' := by
  refine PySem.W.ksm_same ((sortBy_perm ns).trans p.symm) ?_ h
  have := sortBy_sorted (le := fun a b : Int => decide (a ≤ b)) (fun a b z => by simp at z ⊢; omega) (fun a b c z y => by simp at z y ⊢; omega) ns
  exact this.imp fun z => of_decide_eq_true z

/-- a built-in, by values -/
def RCn (K : PySem.W.Frag) (T : Tb) (f : List PV → Option (PV × Md)) : List V → Hp → L2.VK → Prop := fun xs H Q => ∃ W S F us v m,
  Vws K W H us xs ∧ Ok K T W H S F ∧ f us = some (v, m) ∧ m.fin = true ∧ Aft K T W H S F v m Q
section
variable {X : L2.Cx} {T : Tb}
theorem vws1 {K : PySem.W.Frag} {W : Wd} {H : Hp} {u : PV} {xs : List V} (h : Vws K W H [u] xs) : ∃ x, xs = [x] ∧ Vw K W H u x := by
  obtain ⟨x, r, rfl, h1, rfl⟩ := h
  exact ⟨x, rfl, h1⟩
theorem KeyR.rep {K : PySem.W.Frag} {W : Wd} {H : Hp} {k : Ky} {k' : Key} (h : KeyR k k') : RepV K W H (keyV k) (L2.kV k') := by
  cases h with
  | int i => simp only [keyV, L2.kV, RepV]
  | str x ha => simp only [keyV, L2.kV, RepV]; exact ⟨trivial, ha⟩
theorem RepK.keys {K : PySem.W.Frag} {W : Wd} {H : Hp} : ∀ {kvs : List (Ky × PV)} {ks : List (Key × V)}, RepK K W H kvs ks → RepVs K W H (dom kvs) (ks.map fun kv => L2.kV kv.1)
  | [], ks, h => by
    simp only [RepK] at h
    subst h
    simp only [dom, List.map_nil, RepVs]
  | (k, x) :: r, ks, h => by
    simp only [RepK] at h
    obtain ⟨k', v, t, rfl, h0, h1, h2⟩ := h
    simp only [dom, List.map_cons, RepVs]
    exact ⟨_, _, rfl, h0.rep, h2.keys⟩
theorem RepK.len {K : PySem.W.Frag} {W : Wd} {H : Hp} : ∀ {kvs : List (Ky × PV)} {ks : List (Key × V)}, RepK K W H kvs ks → ks.length = kvs.length
  | [], ks, h => by
    simp only [RepK] at h
    subst h
    rfl
  | (k, x) :: r, ks, h => by
    simp only [RepK] at h
    obtain ⟨k', v, t, rfl, h0, h1, h2⟩ := h
    simp [h2.len]
theorem RepT.len {K : PySem.W.Frag} {W : Wd} {H : Hp} : ∀ {kvs : List (Ky × PV)} {ks : List (List Key × V)}, RepT K W H kvs ks → ks.length = kvs.length
  | [], ks, h => by
    simp only [RepT] at h
    subst h
    rfl
  | (k, x) :: r, ks, h => by
    simp only [RepT] at h
    obtain ⟨k', v, t, rfl, h0, h1, h2⟩ := h
    simp [h2.len]
theorem pathK_ints (p : List Nat) : (pathK p).map L2.kV = (p.map fun (n : Nat) => (n : Int)).map V.int := by
  unfold pathK
  rw [List.map_map, List.map_map]
  rfl
theorem path_rep {K : PySem.W.Frag} {W : Wd} {H : Hp} {p : List Nat} {b : Addr} (e : H b = some (.tup ((pathK p).map L2.kV))) (hs : W.sh b) : RepV K W H (keyV (.tp p)) (.ref b) := by
  simp only [keyV, RepV]
  refine ⟨b, _, rfl, .inl ⟨hs, e⟩, ?_⟩
  rw [pathK_ints]
  have := reps_ints (K := K) (W := W) (H := H) (p.map fun (n : Nat) => (n : Int))
  rw [List.map_map] at this
  exact this
/-- the keys of a dict by rows may stand anywhere -/
theorem RepT.keys {K : PySem.W.Frag} {T : Tb} {H : Hp} {S : Sto} {F : List Addr} : ∀ {kvs : List (Ky × PV)} {ks : List (List Key × V)} {bs : List Addr} {W : Wd}, Ok K T W H S F → RepT K W H kvs ks → L2.IsKeys H ks bs → ∃ W', Grow W H W' H ∧ Ok K T W' H S F ∧ RepVs K W' H (dom kvs) (bs.map V.ref)
  | [], ks, bs, W, ok, h, b => by
    simp only [RepT] at h
    subst h
    cases b
    exact ⟨W, Grow.refl _ _, ok, by simp only [dom, List.map_nil, RepVs]⟩
  | (k, x) :: r, ks, bs, W, ok, h, b => by
    simp only [RepT] at h
    obtain ⟨k', v, t, rfl, rfl, h1, h2⟩ := h
    cases b with
    | @cons _ b0 _ bs0 e0 b1 =>
      obtain ⟨ok1, g1⟩ := ok.tupS e0
      obtain ⟨W', g2, ok2, r2⟩ := RepT.keys ok1 (RepT.grow g1 _ _ h2) b1
      refine ⟨W', g1.trans g2, ok2, ?_⟩
      simp only [dom, List.map_cons, RepVs]
      exact ⟨_, _, rfl, path_rep e0 (g2.sh _ (.inr rfl)), r2⟩
theorem fin_dct {W : Wd} {H : Hp} {S : Sto} {F : List Addr} {Q : L2.VK} {p : Addr} {kvs : List (Ky × PV)} {ks : List (Key × V)} {K : PySem.W.Frag} (ok : Ok K T W H S F) (np : H p = none) (r : RepK K W H kvs ks) (q : Aft K T W H S F (.dct kvs) .own Q) : Q (.ref p) (upd H p (.dK ks)) :=
  q W _ _ (Grow.laid np) (Fr.laid np) ⟨p, rfl, .inl ⟨ks, L2.upd_same, RepK.grow (Grow.laid np) _ _ r⟩⟩ (ok.laid np)
theorem b_len : L2.CallR X (.builtin "len") (RCn X.K T (bi .len)) := by
  intro pins s σ H xs us Q I r ⟨W, S, F, vs, v, m, hv, ok, e, hf, q⟩
  unfold bi at e
  split at e
  all_goals try cases ‹Bi.len = _›
  · cases e
    obtain ⟨x, rfl, a, ws, rfl, t, rp⟩ := vws1 hv
    rw [← rp.len] at q
    exact L2.call_len_seq pins s σ H _ us Q I r ⟨a, ws, rfl, .inl (.inl t), fin_int ok q⟩
  · cases e
    obtain ⟨x, rfl, a, ws, rfl, t, rp⟩ := vws1 hv
    rw [← rp.len] at q
    exact L2.call_len_seq pins s σ H _ us Q I r ⟨a, ws, rfl, .inr t, fin_int ok q⟩
  · cases e
    obtain ⟨x, rfl, a, rfl, h⟩ := vws1 hv
    rw [L2.Vals.ref1 r]
    rcases h with ⟨ks, rd, rp⟩ | ⟨ks, rd, rp⟩
    · rw [← rp.len] at q
      exact L2.d_len I rd fun t s' I' => ⟨.int ks.length, H, I', ⟨t, rfl⟩, fin_int ok q⟩
    · rw [← rp.len] at q
      obtain ⟨z, hd, ys, rel, dd⟩ := L2.dt_rd I.hok rd
      have hl : ks.length = ys.length := PySem.Paired.length rel
      refine PySem.call_len_dictH hd dd (by rw [← hl]; rw [PySem.sizeLine_eq] at z; omega) ?_
      rw [← hl]
      exact ⟨.int ((ks.length : Nat) : Int), H, I.tok _, ⟨_, rfl⟩, fin_int ok q⟩
  · split at e
    · rename_i hl
      cases e
      obtain ⟨x, rfl, w⟩ := vws1 hv
      simp only [Vw, RepV] at w
      obtain ⟨rfl, ha⟩ := w
      exact L2.call_len_str pins s σ H _ us Q I r ⟨_, rfl, by rw [txt_length]; exact lim_size hl, by rw [txt_length]; exact fin_int ok q⟩
    · cases e
  · cases e
theorem b_min2 (hc : X.calm = true) : L2.CallR X (.builtin "min") (RCn X.K T (bi .min2)) := by
  intro pins s σ H xs us Q I r ⟨W, S, F, vs, v, m, hv, ok, e, hf, q⟩
  unfold bi at e
  split at e
  all_goals try cases ‹Bi.min2 = _›
  · cases e
    obtain ⟨x, t, rfl, h1, y, t2, rfl, h2, rfl⟩ := hv
    simp only [Vw, RepV] at h1 h2
    subst h1 h2
    exact L2.call_min2 hc pins s σ H _ us Q I r ⟨_, _, rfl, fin_int ok q⟩
  · cases e
theorem b_max2 (hc : X.calm = true) : L2.CallR X (.builtin "max") (RCn X.K T (bi .max2)) := by
  intro pins s σ H xs us Q I r ⟨W, S, F, vs, v, m, hv, ok, e, hf, q⟩
  unfold bi at e
  split at e
  all_goals try cases ‹Bi.max2 = _›
  · cases e
    obtain ⟨x, t, rfl, h1, y, t2, rfl, h2, rfl⟩ := hv
    simp only [Vw, RepV] at h1 h2
    subst h1 h2
    exact L2.call_max2 hc pins s σ H _ us Q I r ⟨_, _, rfl, fin_int ok q⟩
  · cases e
theorem b_minL (hc : X.calm = true) : L2.CallR X (.builtin "min") (RCn X.K T (bi .minL)) := by
  intro pins s σ H xs us Q I r ⟨W, S, F, vs, v, m, hv, ok, e, hf, q⟩
  unfold bi at e
  split at e
  all_goals try cases ‹Bi.minL = _›
  · obtain ⟨i, e1, e2⟩ := Option.map_eq_some_iff.mp e
    cases e2
    obtain ⟨ns, e2, e3⟩ := Option.bind_eq_some_iff.mp e1
    obtain ⟨x, rfl, a, ws, rfl, t, rp⟩ := vws1 hv
    rw [ints_reps e2 rp] at t
    obtain ⟨m1, m2⟩ := minI_spec e3
    refine L2.cr_min hc pins s σ H _ us Q I r ⟨a, ns, rfl, .inl t, List.length_pos_of_mem m1, fun m h1 h2 => ?_⟩
    have : m = i := Int.le_antisymm (h2 i m1) (m2 m h1)
    subst this
    exact fin_int ok q
  · cases e
theorem b_maxL (hc : X.calm = true) : L2.CallR X (.builtin "max") (RCn X.K T (bi .maxL)) := by
  intro pins s σ H xs us Q I r ⟨W, S, F, vs, v, m, hv, ok, e, hf, q⟩
  unfold bi at e
  split at e
  all_goals try cases ‹Bi.maxL = _›
  · obtain ⟨i, e1, e2⟩ := Option.map_eq_some_iff.mp e
    cases e2
    obtain ⟨ns, e2, e3⟩ := Option.bind_eq_some_iff.mp e1
    obtain ⟨x, rfl, a, ws, rfl, t, rp⟩ := vws1 hv
    rw [ints_reps e2 rp] at t
    obtain ⟨m1, m2⟩ := maxI_spec e3
    refine L2.cr_max hc pins s σ H _ us Q I r ⟨a, ns, rfl, .inl t, List.length_pos_of_mem m1, fun m h1 h2 => ?_⟩
    have : m = i := Int.le_antisymm (m2 m h1) (h2 i m1)
    subst this
    exact fin_int ok q
  · cases e
theorem b_sum (hc : X.calm = true) : L2.CallR X (.builtin "sum") (RCn X.K T (bi .sum)) := by
  intro pins s σ H xs us Q I r ⟨W, S, F, vs, v, m, hv, ok, e, hf, q⟩
  unfold bi at e
  split at e
  all_goals try cases ‹Bi.sum = _›
  · obtain ⟨ns, e1, e2⟩ := Option.map_eq_some_iff.mp e
    cases e2
    obtain ⟨x, rfl, a, ws, rfl, t, rp⟩ := vws1 hv
    rw [ints_reps e1 rp] at t
    exact L2.cr_sum hc pins s σ H _ us Q I r ⟨a, ns, rfl, .inl t, fin_int ok q⟩
  · cases e
theorem b_all (hc : X.calm = true) : L2.CallR X (.builtin "all") (RCn X.K T (bi .all)) := by
  intro pins s σ H xs us Q I r ⟨W, S, F, vs, v, m, hv, ok, e, hf, q⟩
  unfold bi at e
  split at e
  all_goals try cases ‹Bi.all = _›
  · obtain ⟨ns, e1, e2⟩ := Option.map_eq_some_iff.mp e
    cases e2
    obtain ⟨x, rfl, a, ws, rfl, t, rp⟩ := vws1 hv
    rw [bools_reps e1 rp] at t
    exact L2.cr_all hc pins s σ H _ us Q I r ⟨a, ns, rfl, .inl t, fin_bl ok q⟩
  · cases e
theorem b_any (hc : X.calm = true) : L2.CallR X (.builtin "any") (RCn X.K T (bi .any)) := by
  intro pins s σ H xs us Q I r ⟨W, S, F, vs, v, m, hv, ok, e, hf, q⟩
  unfold bi at e
  split at e
  all_goals try cases ‹Bi.any = _›
  · obtain ⟨ns, e1, e2⟩ := Option.map_eq_some_iff.mp e
    cases e2
    obtain ⟨x, rfl, a, ws, rfl, t, rp⟩ := vws1 hv
    rw [bools_reps e1 rp] at t
    exact L2.cr_any hc pins s σ H _ us Q I r ⟨a, ns, rfl, .inl t, fin_bl ok q⟩
  · cases e
theorem b_int : L2.CallR X (.type "int") (RCn X.K T (bi .int)) := by
  intro pins s σ H xs us Q I r ⟨W, S, F, vs, v, m, hv, ok, e, hf, q⟩
  unfold bi at e
  split at e
  all_goals try cases ‹Bi.int = _›
  · cases e
    obtain ⟨x, rfl, w⟩ := vws1 hv
    simp only [Vw, RepV] at w
    subst w
    exact L2.call_int1 pins s σ H _ us Q I r (.inl ⟨_, rfl, fin_int ok q⟩)
  · cases e
    obtain ⟨x, rfl, w⟩ := vws1 hv
    simp only [Vw, RepV] at w
    subst w
    exact L2.call_int1 pins s σ H _ us Q I r (.inr ⟨_, rfl, fin_int ok q⟩)
  · cases e
theorem b_list (hc : X.calm = true) : L2.CallR X (.type "list") (RCn X.K T (bi .list)) := by
  intro pins s σ H xs us Q I r ⟨W, S, F, vs, v, m, hv, ok, e, hf, q⟩
  unfold bi at e
  split at e
  all_goals try cases ‹Bi.list = _›
  · cases e
    obtain ⟨x, rfl, a, ws, rfl, t, rp⟩ := vws1 hv
    exact L2.call_list_of pins s σ H _ us Q I r ⟨a, ws, rfl, .inl (.inl t), fun p np => fin_lst ok np rp q⟩
  · cases e
    obtain ⟨x, rfl, a, ws, rfl, t, rp⟩ := vws1 hv
    exact L2.call_list_of pins s σ H _ us Q I r ⟨a, ws, rfl, .inr t, fun p np => fin_lst ok np rp q⟩
  · cases e
    obtain ⟨x, rfl, a, rfl, h⟩ := vws1 hv
    rcases h with ⟨ks, rd, rp⟩ | ⟨ks, rd, rp⟩
    · exact L2.call_listD hc pins s σ H _ us Q I r ⟨a, ks, rfl, rd, fun p np => fin_lst ok np rp.keys q⟩
    · refine L2.call_list_dT hc pins s σ H _ us Q I r ⟨a, ks, rfl, rd, fun p bs np ik => ?_⟩
      obtain ⟨W', g1, ok1, r1⟩ := RepT.keys ok rp ik
      exact fin_lst ok1 np r1 fun W2 H2 z g f => q W2 H2 z (g1.trans g) f
  · cases e
/-! ### dicts made -/
theorem anyK_iff {kvs : List (Ky × PV)} {ks : List (Key × V)} {K : PySem.W.Frag} {W : Wd} {H : Hp} {k : Ky} {k' : Key} (hk : KeyR k k') : RepK K W H kvs ks → hasK k kvs = ks.any fun kv => decide (kv.1 = k') := by
  induction kvs generalizing ks with
  | nil =>
    intro h
    simp only [RepK] at h
    subst h
    rfl
  | cons p r ih =>
    intro h
    obtain ⟨k1, x⟩ := p
    simp only [RepK] at h
    obtain ⟨k1', v, t, rfl, h0, h1, h2⟩ := h
    have := ih h2
    unfold hasK at this ⊢
    rw [List.any_cons, List.any_cons, this]
    congr 1
    exact decide_eq_decide.mpr (h0.inj hk)
theorem RepK.putOld {K : PySem.W.Frag} {W : Wd} {H : Hp} {k : Ky} {k' : Key} {x : PV} {v : V} (hk : KeyR k k') (hx : RepV K W H x v) : ∀ {kvs : List (Ky × PV)} {ks : List (Key × V)}, RepK K W H kvs ks →
    RepK K W H (kvs.map fun p => if p.1 = k then (p.1, x) else p) (ks.map fun kv => if kv.1 = k' then (kv.1, v) else kv)
  | [], ks, h => by
    simp only [RepK] at h
    subst h
    simp only [List.map_nil, RepK]
  | (k1, y) :: r, ks, h => by
    simp only [RepK] at h
    obtain ⟨k1', w, t, rfl, h0, h1, h2⟩ := h
    have e := h0.inj hk
    have ih := RepK.putOld hk hx h2
    rw [List.map_cons, List.map_cons]
    by_cases z : k1 = k
    · rw [if_pos z, if_pos (e.mp z)]
      simp only [RepK]
      exact ⟨_, _, _, rfl, h0, hx, ih⟩
    · rw [if_neg z, if_neg (fun y => z (e.mpr y))]
      simp only [RepK]
      exact ⟨_, _, _, rfl, h0, h1, ih⟩
theorem RepK.putNew {K : PySem.W.Frag} {W : Wd} {H : Hp} {k : Ky} {k' : Key} {x : PV} {v : V} (hk : KeyR k k') (hx : RepV K W H x v) : ∀ {kvs : List (Ky × PV)} {ks : List (Key × V)}, RepK K W H kvs ks → RepK K W H (kvs ++ [(k, x)]) (ks ++ [(k', v)])
  | [], ks, h => by
    simp only [RepK] at h
    subst h
    simp only [List.nil_append, RepK]
    exact ⟨_, _, _, rfl, hk, hx, rfl⟩
  | (k1, y) :: r, ks, h => by
    simp only [RepK] at h
    obtain ⟨k1', w, t, rfl, h0, h1, h2⟩ := h
    simp only [List.cons_append, RepK]
    exact ⟨_, _, _, rfl, h0, h1, RepK.putNew hk hx h2⟩
theorem RepK.putR {K : PySem.W.Frag} {W : Wd} {H : Hp} {kvs : List (Ky × PV)} {ks : List (Key × V)} {k : Ky} {k' : Key} {x : PV} {v : V} (h : RepK K W H kvs ks) (hk : KeyR k k') (hx : RepV K W H x v) : RepK K W H (putK k x kvs) (L2.putK ks k' v) := by
  unfold putK L2.putK
  rw [anyK_iff hk h]
  split
  · exact RepK.putOld hk hx h
  · exact RepK.putNew hk hx h
theorem RepK.mergeR {K : PySem.W.Frag} {W : Wd} {H : Hp} : ∀ {ps : List (Ky × PV)} {qs : List (Key × V)} {kvs : List (Ky × PV)} {ks : List (Key × V)}, RepK K W H ps qs → RepK K W H kvs ks → RepK K W H (ps.foldl (fun d p => putK p.1 p.2 d) kvs) (L2.mergeK ks qs)
  | [], qs, kvs, ks, h, h' => by
    simp only [RepK] at h
    subst h
    exact h'
  | (k, x) :: r, qs, kvs, ks, h, h' => by
    simp only [RepK] at h
    obtain ⟨k', v, t, rfl, h0, h1, h2⟩ := h
    exact RepK.mergeR (ps := r) (qs := t) h2 (h'.putR h0 h1)
def noTp : Ky → Bool
  | .tp _ => false
  | _ => true
theorem key_rep {K : PySem.W.Frag} {W : Wd} {H : Hp} {x : PV} {v : V} {k : Ky} (h : RepV K W H x v) (e : keyOf x = some k) (n : noTp k = true) : ∃ k', KeyR k k' ∧ v = L2.kV k' := by
  unfold keyOf at e
  split at e
  · cases e
    simp only [RepV] at h
    exact ⟨_, .int _, h⟩
  · cases e
    simp only [RepV] at h
    exact ⟨_, .str _ h.2, h.1⟩
  · obtain ⟨p, _, z⟩ := Option.map_eq_some_iff.mp e
    cases z
    cases n
  · cases e
theorem pairs_rep {K : PySem.W.Frag} {W : Wd} {H : Hp} : ∀ {xs : List PV} {vs : List V} {kvs : List (Ky × PV)}, RepVs K W H xs vs → pairsOf xs = some kvs → allK kvs = true →
    ∃ (ps : List Addr) (ks : List (Key × V)), vs = ps.map V.ref ∧ PySem.Paired (fun p kv => SqT K H p [L2.kV kv.1, kv.2]) ps ks ∧ RepK K W H kvs ks
  | [], vs, kvs, h, e, _ => by
    simp only [RepVs] at h
    subst h
    unfold pairsOf at e
    cases e
    exact ⟨[], [], rfl, .nil, by simp only [RepK]⟩
  | x :: r, vs, kvs, h, e, al => by
    simp only [RepVs] at h
    obtain ⟨v, vs, rfl, h1, h2⟩ := h
    unfold pairsOf at e
    split at e
    · cases ‹_ = []›
    · rename_i k y r' he
      cases he
      split at e
      · rename_i k0 rest e1 e2
        cases e
        unfold allK at al
        rw [List.all_cons, Bool.and_eq_true] at al
        obtain ⟨ps, ks, rfl, q, rk⟩ := pairs_rep h2 e2 al.2
        obtain ⟨b, ws, rfl, t, rs⟩ := h1.vw
        simp only [RepVs] at rs
        obtain ⟨w1, r1, rfl, rk1, w2, r2, rfl, rv, rfl⟩ := rs
        obtain ⟨k', kr, rfl⟩ := key_rep rk1 e1 (by cases k0 <;> first | rfl | exact al.1)
        refine ⟨b :: ps, (k', w2) :: ks, rfl, .cons t q, ?_⟩
        simp only [RepK]
        exact ⟨_, _, _, rfl, kr, rv, rk⟩
      · cases e
    · cases e
theorem b_dict (hc : X.calm = true) : L2.CallR X (.type "dict") (RCn X.K T (bi .dict)) := by
  intro pins s σ H xs us Q I r ⟨W, S, F, vs, v, m, hv, ok, e, hf, q⟩
  unfold bi at e
  split at e
  all_goals try cases ‹Bi.dict = _›
  · obtain ⟨kvs, e1, e2⟩ := Option.bind_eq_some_iff.mp e
    split at e2
    · rename_i al
      cases e2
      obtain ⟨x, rfl, a, ws, rfl, t, rp⟩ := vws1 hv
      obtain ⟨ps, ks, rfl, pr, rk⟩ := pairs_rep rp e1 al
      exact L2.call_dictP hc pins s σ H _ us Q I r ⟨a, ps, ks, rfl, .inl t, pr, fun p np => fin_dct ok np (RepK.mergeR rk (by simp only [RepK])) q⟩
    · cases e2
  · split at e
    · rename_i kvs al
      cases e
      obtain ⟨x, rfl, a, rfl, h⟩ := vws1 hv
      rcases h with ⟨ks, rd, rp⟩ | ⟨ks, rd, rp⟩
      · exact L2.call_dictD pins s σ H _ us Q I r ⟨a, ks, rfl, rd, fun p np => fin_dct ok np rp q⟩
      · cases kvs with
        | nil =>
          simp only [RepT] at rp
          subst rp
          obtain ⟨lo, dd⟩ := dK0 I rd
          rw [L2.Vals.ref1 r]
          refine PySem.kt_call_dict lo dd (by show 0 ≤ _; exact Nat.zero_le _) fun h' d' hs => ?_
          have hm : (s.heap.objs.size == PySem.sysModules) = false := beq_eq_false_iff_ne.mpr (Nat.ne_of_gt I.big)
          exact ⟨.ref s.heap.objs.size, upd H s.heap.objs.size (.dK []), I.laid (t' := s.toks) (fun b u z => (hs.2 b (Nat.ne_of_lt (PySem.Heap.lt_size z))).trans (PySem.Heap.get?_push_of_some _ z)) (Nat.le_refl _)
            (show L2.ObjOk X.prog X.w _ _ _ (.dK []) from ⟨Nat.zero_le _, hm, [], .nil, d'⟩), rfl, fin_dct ok (I.hok.fresh (Nat.le_refl _)) (by simp only [RepK]) q⟩
        | cons p kvs =>
          obtain ⟨k, x⟩ := p
          simp only [RepT] at rp
          obtain ⟨k', v, t, rfl, rfl, _⟩ := rp
          simp [allK] at al
    · cases e
  · cases e
end
end SR

set_option linter.unusedVariables false
set_option maxRecDepth 100000
set_option maxHeartbeats 0
/-! sorted, and sorted(set(..)). -/
namespace SR
open PySem (Addr Str Value PyData Heap)
open L2 (V Hp HO Key upd Rd SqL SqT)
section
variable {X : L2.Cx} {T : Tb} {G : Prg} {Φ : Phi} {g : Sg} {sc : PySem.Scope} {N : List Str} {exc : Nat → Value} {WX : WXn}
theorem codes_txt (x : List Nat) : codes (txt x) = x.map Int.ofNat := by simp [codes, txt]
theorem sqt_of {K : PySem.W.Frag} {W : Wd} {H : Hp} {xs : List PV} {v : V} (h : RepV K W H (.tup xs) v) : ∃ a vs, v = .ref a ∧ SqT K H a vs ∧ RepVs K W H xs vs := h.vw
theorem keyAtP {pins : List (Addr × PySem.Obj)} {σ : L2.St} {H : Hp} {s : PySem.Shared} {W : Wd} (I : L2.Inv X pins σ H s) {x : PV} {v : V} {u : Value} {kd : Nat} {k : List Int} (h : RepV X.K W H x v) (r : L2.RelV v u) (e : sKey x = some (kd, k)) : KeyAt s.heap kd u k := by
  unfold sKey at e
  split at e
  · cases e
    simp only [RepV] at h
    subst h
    obtain ⟨t, rfl⟩ := r
    exact .int _ t
  · cases e
    simp only [RepV] at h
    obtain ⟨rfl, _⟩ := h
    obtain ⟨t, rfl⟩ := r
    rw [← codes_txt]
    exact .str _ t
  · obtain ⟨k', e1, e2⟩ := Option.map_eq_some_iff.mp e
    cases e2
    obtain ⟨a, vs, rfl, t, rs⟩ := sqt_of h
    cases r
    obtain ⟨its, rv, p1, _⟩ := I.tuple t
    have e2 := ints_reps e1 rs
    rw [e2] at rv
    refine .row a its.toArray k p1 (by rw [List.toList_toArray]; exact rv.ints) ?_
    intro z
    rw [z] at e1
    unfold intsOf at e1
    obtain ⟨_, _, z⟩ := Option.map_eq_some_iff.mp e1
    cases z
  · obtain ⟨k', e1, e2⟩ := Option.map_eq_some_iff.mp e
    cases e2
    obtain ⟨a, vs, rfl, t, rs⟩ := sqt_of h
    cases r
    obtain ⟨its, rv, p1, _⟩ := I.tuple t
    simp only [RepVs] at rs
    obtain ⟨v1, r1, rfl, h1, _⟩ := rs
    obtain ⟨b, ws, rfl, t1, rs1⟩ := sqt_of h1
    cases rv with
    | @cons _ u1 _ rest r0 r2 =>
      cases r0
      obtain ⟨js, rv1, p2, _⟩ := I.tuple t1
      rw [ints_reps e1 rs1] at rv1
      exact .rowF a b (Value.ref b :: rest).toArray rest js.toArray _ p1 rfl p2 (by rw [List.toList_toArray]; exact rv1.ints)
  · cases e
    obtain ⟨a, vs, rfl, t, rs⟩ := sqt_of h
    cases r
    obtain ⟨its, rv, p1, _⟩ := I.tuple t
    simp only [RepVs] at rs
    obtain ⟨v1, r1, rfl, h1, _⟩ := rs
    simp only [RepV] at h1
    obtain ⟨rfl, _⟩ := h1
    cases rv with
    | @cons _ u1 _ rest r0 r2 =>
      obtain ⟨t', rfl⟩ := r0
      rw [← codes_txt]
      exact .strF a _ rest _ t' p1 rfl
  · cases e
/-- three lists beside each other -/
inductive Tri (A : PV → V → Value → Prop) : List PV → List V → List Value → List (PV × V × Value) → Prop where
  | nil : Tri A [] [] [] []
  | cons {x v u xs vs us T} : A x v u → Tri A xs vs us T → Tri A (x :: xs) (v :: vs) (u :: us) ((x, v, u) :: T)
theorem tri_of {K : PySem.W.Frag} {W : Wd} {H : Hp} : ∀ {xs : List PV} {vs : List V} {us : List Value}, RepVs K W H xs vs → L2.Vals vs us →
    ∃ T : List (PV × V × Value), T.map (·.1) = xs ∧ T.map (·.2.1) = vs ∧ T.map (·.2.2) = us ∧ ∀ t ∈ T, RepV K W H t.1 t.2.1 ∧ L2.RelV t.2.1 t.2.2
  | [], vs, us, h, r => by
    simp only [RepVs] at h
    subst h
    cases r
    exact ⟨[], rfl, rfl, rfl, fun t ht => nomatch ht⟩
  | x :: xs, vs, us, h, r => by
    simp only [RepVs] at h
    obtain ⟨v, vs, rfl, h1, h2⟩ := h
    cases r with
    | cons r1 r2 =>
      obtain ⟨T, e1, e2, e3, e4⟩ := tri_of h2 r2
      refine ⟨(x, v, _) :: T, by rw [List.map_cons, e1], by rw [List.map_cons, e2], by rw [List.map_cons, e3], fun t ht => ?_⟩
      rcases List.mem_cons.mp ht with e | ht
      · rw [e]; exact ⟨h1, r1⟩
      · exact e4 t ht
theorem tri_reps {K : PySem.W.Frag} {W : Wd} {H : Hp} : ∀ {T : List (PV × V × Value)}, (∀ t ∈ T, RepV K W H t.1 t.2.1 ∧ L2.RelV t.2.1 t.2.2) → RepVs K W H (T.map (·.1)) (T.map (·.2.1)) ∧ L2.Vals (T.map (·.2.1)) (T.map (·.2.2))
  | [], _ => ⟨by simp only [List.map_nil, RepVs], .nil⟩
  | t :: T, h => by
    obtain ⟨h1, h2⟩ := h t List.mem_cons_self
    obtain ⟨h3, h4⟩ := tri_reps fun u hu => h u (List.mem_cons_of_mem _ hu)
    refine ⟨?_, .cons h2 h4⟩
    simp only [List.map_cons, RepVs]
    exact ⟨_, _, rfl, h1, h3⟩
theorem rowsK_mem {kd : Nat} : ∀ {xs : List PV} {r : List (List Int)}, rowsK kd xs = some r → (∀ x ∈ xs, sKey x = some (kd, rowOf x)) ∧ r = xs.map rowOf
  | [], r, e => by
    unfold rowsK at e
    cases e
    exact ⟨(fun x hx => nomatch hx), rfl⟩
  | x :: xs, r, e => by
    unfold rowsK at e
    split at e
    · rename_i k a r' e1 e2
      split at e
      · rename_i hk
        cases e
        subst hk
        obtain ⟨h1, h2⟩ := rowsK_mem e2
        have e3 : rowOf x = a := by unfold rowOf; rw [e1]; rfl
        refine ⟨fun y hy => ?_, by rw [List.map_cons, e3, h2]⟩
        rcases List.mem_cons.mp hy with z | hy
        · rw [z, e1, e3]
        · exact h1 y hy
      · cases e
    · cases e
theorem kindOf_mem {xs : List PV} {kd : Nat} {r : List (List Int)} (e : kindOf xs = some (kd, r)) : (∀ x ∈ xs, sKey x = some (kd, rowOf x)) ∧ r = xs.map rowOf := by
  unfold kindOf at e
  split at e
  · cases e
    exact ⟨(fun x hx => nomatch hx), rfl⟩
  · obtain ⟨p, e1, e2⟩ := Option.bind_eq_some_iff.mp e
    obtain ⟨r', e3, e4⟩ := Option.map_eq_some_iff.mp e2
    cases e4
    exact rowsK_mem e3
theorem key_le {x : PV} {kd : Nat} {k : List Int} (e : sKey x = some (kd, k)) : kd ≤ 4 := by
  unfold sKey at e
  split at e <;> first
    | (cases e; decide)
    | (obtain ⟨_, _, z⟩ := Option.map_eq_some_iff.mp e; cases z; decide)
    | cases e
theorem leI_fun {α : Type} (f : α → List Int) : (fun a b : α => leI (f a) (f b)) = fun a b => !LL (f b) (f a) := by
  funext a b
  rw [leI_ll]
theorem nodup_inj {α β : Type} {f : α → β} : ∀ {l : List α}, (l.map f).Nodup → ∀ a ∈ l, ∀ b ∈ l, f a = f b → a = b
  | [], _, a, ha, _, _, _ => nomatch ha
  | x :: l, h, a, ha, b, hb, e => by
    rw [List.map_cons, List.nodup_cons] at h
    rcases List.mem_cons.mp ha with z | ha <;> rcases List.mem_cons.mp hb with z2 | hb
    · rw [z, z2]
    · exact absurd (List.mem_map.mpr ⟨b, hb, by rw [← e, z]⟩) h.1
    · exact absurd (List.mem_map.mpr ⟨a, ha, by rw [e, z2]⟩) h.1
    · exact nodup_inj h.2 a ha b hb e
theorem b_sorted (hu : X.A.units + 20 < PySem.cLine) : L2.CallR X (.builtin "sorted") (RCn X.K T (bi .sorted)) := by
  intro pins s σ H xs us Q I r ⟨W, S, F, vs, v, m, hv, ok, e, hf, q⟩
  unfold bi at e
  split at e
  all_goals try cases ‹Bi.sorted = _›
  · rename_i ys
    obtain ⟨zs, e1, e2⟩ := Option.map_eq_some_iff.mp e
    cases e2
    obtain ⟨x, rfl, a, ws, rfl, t, rp⟩ := vws1 hv
    unfold sorted at e1
    obtain ⟨⟨kd, rows⟩, e2, e3⟩ := Option.bind_eq_some_iff.mp e1
    split at e3
    · rename_i hc
      cases e3
      obtain ⟨hk, er⟩ := kindOf_mem e2
      obtain ⟨its, rv, hl, hz⟩ := I.list (X := X) (.inl t)
      rw [L2.Vals.ref1 r]
      obtain ⟨T, t1, t2, t3, t4⟩ := tri_of rp rv
      have kd4 : ys = [] ∨ kd ≤ 4 := by
        cases ys with
        | nil => exact .inl rfl
        | cons y _ => exact .inr (key_le (hk y List.mem_cons_self))
      have at0 : ∀ p ∈ T, KeyAt s.heap kd p.2.2 (rowOf p.1) := fun p hp => keyAtP I (t4 p hp).1 (t4 p hp).2 (hk p.1 (by rw [← t1]; exact List.mem_map.mpr ⟨p, hp, rfl⟩))
      obtain ⟨key, hkey⟩ : ∃ key : Value → List Int, ∀ p ∈ T, key p.2.2 = rowOf p.1 := by
        refine ⟨fun u => ((T.find? fun p => decide (p.2.2 = u)).map fun p => rowOf p.1).getD [], fun p hp => ?_⟩
        show ((T.find? fun p' => decide (p'.2.2 = p.2.2)).map fun p => rowOf p.1).getD [] = _
        cases hfd : T.find? fun p' => decide (p'.2.2 = p.2.2) with
        | none =>
          have := List.find?_eq_none.mp hfd p hp
          simp at this
        | some p' =>
          have e4 : p'.2.2 = p.2.2 := by simpa using List.find?_some hfd
          have k1 := at0 p' (List.mem_of_find?_eq_some hfd)
          have k2 := at0 p hp
          rw [e4] at k1
          show rowOf p'.1 = rowOf p.1
          generalize rowOf p'.1 = r1 at k1
          generalize rowOf p.1 = r2 at k2
          generalize p.2.2 = u at k1 k2
          cases k1 with
          | int i t => cases k2; rfl
          | str x t => cases k2; rfl
          | row a its _ h1 h2 _ =>
            cases k2 with
            | row _ its' _ g1 g2 _ =>
              obtain rfl := tup_one h1 g1
              exact ints_one h2 g2
          | rowF a b its rest js _ h1 h2 h3 h4 =>
            cases k2 with
            | rowF _ b' its' rest' js' _ g1 g2 g3 g4 =>
              obtain rfl := tup_one h1 g1
              rw [h2] at g2
              injection g2 with g2 _
              injection g2 with g2
              subst g2
              obtain rfl := tup_one h3 g3
              exact ints_one h4 g4
          | strF a its rest x t h1 h2 =>
            cases k2 with
            | strF _ its' rest' x' t' g1 g2 =>
              obtain rfl := tup_one h1 g1
              rw [h2] at g2
              injection g2 with g2 _
              injection g2 with g2
              rw [g2]
      have mem : ∀ u ∈ its, ∃ p ∈ T, p.2.2 = u := fun u hu => by
        rw [← t3] at hu
        exact List.mem_map.mp hu
      refine SrtO.sorted_ord (ll_swo key) hl.isList (by rw [← rv.length]; exact hz) (fun h2 h₁ a' hnew kp => ?_) fun out h1 h2 => ?_
      · refine keys_sortable (kd := kd) (s := { s with heap := h₁ }) h2 ?_ (fun u hu => ?_) (fun h3 u hu w hw e4 => ?_) (by show X.A.units + 1 + 1 + 2 < PySem.cLine; omega) fun o e4 => ?_
        · rcases kd4 with z | z
          · have : its = [] := by
              have l1 := rv.length
              have l2 := rp.len
              rw [z] at l2
              cases its with
              | nil => rfl
              | cons _ _ => rw [l2] at l1; cases l1
            rw [this] at h2
            cases h2
          · exact z
        · obtain ⟨p, hp, rfl⟩ := mem u hu
          rw [hkey p hp]
          exact (at0 p hp).keep fun b o z _ => (kp b o z).2
        · obtain ⟨p, hp, rfl⟩ := mem u hu
          obtain ⟨p', hp', rfl⟩ := mem w hw
          rw [hkey p hp, hkey p' hp'] at e4
          have nd : rows.Nodup := hc.resolve_left (by show ¬ kd < 3; omega)
          rw [er, ← t1, List.map_map] at nd
          have := nodup_inj nd p hp p' hp' e4
          rw [this]
        · have e' : some o = some (PyProof.Rows.seqObj "list" its.toArray 0) := e4.symm.trans hnew
          cases e'
          intro c
          exact absurd (PySem.Value.type.inj c) (by decide)
      · have eo := srt_uniq (ll_swo key) h1 h2
        let TS := sortBy (fun p p' : PV × V × Value => leI (rowOf p.1) (rowOf p'.1)) T
        have e4 : TS.map (·.2.2) = out := by
          rw [eo, ← t3]
          have z := sort_map (le := fun a b => !LL (key b) (key a)) (fun p : PV × V × Value => p.2.2) T
          rw [← z]
          refine congrArg _ (sort_congr T fun p hp p' hp' => ?_)
          rw [hkey p hp, hkey p' hp', leI_ll]
        have e5 : TS.map (·.1) = sortBy (fun a b => leI (rowOf a) (rowOf b)) ys := by
          rw [← t1]
          exact sort_map (le := fun a b => leI (rowOf a) (rowOf b)) (fun p : PV × V × Value => p.1) T
        have mem2 : ∀ p ∈ TS, RepV X.K W H p.1 p.2.1 ∧ L2.RelV p.2.1 p.2.2 := fun p hp => t4 p ((sort_perm _ T).mem_iff.mp hp)
        obtain ⟨r1, r2⟩ := tri_reps mem2
        rw [e5] at r1
        rw [e4] at r2
        obtain ⟨ep, he'⟩ := PyProof.Rows.sortedAll_at s.heap its out.toArray
        have hlen : (TS.map (·.2.1)).length ≤ PySem.sizeLine := by
          rw [r2.length, h2.perm.length_eq, ← rv.length]
          exact hz
        have np : H (s.heap.objs.size + 1) = none := I.hok.fresh (Nat.le_succ _)
        exact ⟨.ref _, upd H (s.heap.objs.size + 1) (.lst (TS.map (·.2.1))), I.laid (t' := s.toks) (fun _ _ => PyProof.Rows.sortedAll_old) (Nat.le_succ _) ⟨hlen, out, ep, r2, he'⟩, rfl, fin_lst ok np r1 q⟩
    · cases e3
  · cases e
end
end SR

set_option maxRecDepth 100000
/-! What is walked; targets; comprehensions. -/
namespace SR
open PySem (Addr Str Value PyData Heap)
open L2 (V Hp HO Key upd Rd SqL SqT)
/-- J walks these items, wherever the state has come to from W0, H0 -/
def Wk (K : PySem.W.Frag) (T : Tb) (J : L2.It) (items : List PV) (W0 : Wd) (H0 : Hp) (F0 : List Addr) : Prop := ∀ W H, Grow W0 H0 W H → Fr H0 H F0 false →
  (∀ (i : Nat) x, items[i]? = some x → J.go i H ∧ ∀ y H', J.yld i H y H' → ∃ W', Grow W H W' H' ∧ (∀ F, Fr H H' F true) ∧ (∀ S F, Ok K T W H S F → Ok K T W' H' S F) ∧ RepV K W' H' x y) ∧ (∀ i : Nat, items.length ≤ i → J.stop i H)
def onF (b : Bool) (F : List Addr) : List Addr := if b = true then F else []
/-- b: the slots' own lists stand still -/
def TIi (K : PySem.W.Frag) (T : Tb) (WX : WXn) (b : Bool) (ev : Env → Sto → IRes) : L2.TI := fun σ H R => ∃ W S r A F, At K T W S r A F σ H ∧ match ev r S with
  | .ok items S' => ∀ W' H' J B, Grow W H W' H' → Fr H H' F false → Wk K T J items W' H' (B ++ onF b F) → Ok K T W' H' S' (B ++ F) → R J H'
  | .exc c S' => ∀ W' H', Grow W H W' H' → Fr H H' F false → Ok K T W' H' S' F → WX c σ H'
  | .bad => False
abbrev PIe (X : L2.Cx) (T : Tb) (WX : WXn) (tg e : PySem.Expr) (b : Bool) (ev : Env → Sto → IRes) : Prop := L2.PI X tg e (TIi X.K T WX b ev)
theorem pi_imp {X : L2.Cx} {tg e : PySem.Expr} {t t' : L2.TI} (h : L2.PI X tg e t) (i : ∀ σ H Q, t' σ H Q → t σ H Q) : L2.PI X tg e t' := ⟨fun pins s σ H Q I q => h.run pins s σ H Q I (i σ H Q q)⟩
theorem pi_or {X : L2.Cx} {tg e : PySem.Expr} {t t' : L2.TI} (h : L2.PI X tg e t) (h' : L2.PI X tg e t') : L2.PI X tg e (fun σ H Q => t σ H Q ∨ t' σ H Q) := ⟨fun pins s σ H Q I q => q.elim (h.run pins s σ H Q I) (h'.run pins s σ H Q I)⟩
section
variable {K : PySem.W.Frag} {T : Tb} {W0 : Wd} {H0 : Hp} {F0 : List Addr}
theorem wk_list {a : Addr} {xs : List PV} {vs : List V} (r : RepVs K W0 H0 xs vs) (st : ∀ W H, Grow W0 H0 W H → Fr H0 H F0 false → Rd H a (.lst vs)) : Wk K T (L2.Itl K a) xs W0 H0 F0 := fun W H g f => by
  have q : SqL K H a vs := .inl (st W H g f)
  refine ⟨fun i x e => ?_, fun i hi => ⟨vs, q, Nat.le_trans (Nat.le_of_eq r.len) hi⟩⟩
  obtain ⟨y, ey, ry⟩ := r.get e
  refine ⟨⟨vs, y, q, ey⟩, fun z H' h => ?_⟩
  obtain ⟨rfl, h⟩ := h
  have := h vs q
  rw [ey] at this
  cases this
  exact ⟨W, Grow.refl _ _, fun F => Fr.refl _ _ _, fun _ _ ok => ok, ry.grow g _ _⟩
theorem wk_tup {a : Addr} {xs : List PV} {vs : List V} (r : RepVs K W0 H0 xs vs) (st : ∀ W H, Grow W0 H0 W H → Fr H0 H F0 false → SqT K H a vs) : Wk K T (L2.Itt K a) xs W0 H0 F0 := fun W H g f => by
  have q : SqT K H a vs := st W H g f
  refine ⟨fun i x e => ?_, fun i hi => ⟨vs, q, Nat.le_trans (Nat.le_of_eq r.len) hi⟩⟩
  obtain ⟨y, ey, ry⟩ := r.get e
  refine ⟨⟨vs, y, q, ey⟩, fun z H' h => ?_⟩
  obtain ⟨rfl, h⟩ := h
  have := h vs q
  rw [ey] at this
  cases this
  exact ⟨W, Grow.refl _ _, fun F => Fr.refl _ _ _, fun _ _ ok => ok, ry.grow g _ _⟩
theorem range_get {lo : Int} {n i : Nat} {x : PV} (e : (range lo n)[i]? = some x) : i < n ∧ x = .int (lo + i) := by
  unfold range at e
  rw [List.getElem?_map] at e
  by_cases h : i < n
  · rw [List.getElem?_range h] at e
    cases e
    exact ⟨h, rfl⟩
  · rw [List.getElem?_eq_none (by simp; omega)] at e
    cases e
theorem range_len {lo : Int} {n : Nat} : (range lo n).length = n := by simp [range]
theorem wk_range {lo : Int} {n : Nat} : Wk K T (L2.Itr lo n) (range lo n) W0 H0 F0 := fun W H g f => by
  refine ⟨fun i x e => ?_, fun i hi => by rw [range_len] at hi; exact hi⟩
  obtain ⟨h1, rfl⟩ := range_get e
  refine ⟨h1, fun z H' h => ?_⟩
  obtain ⟨rfl, rfl⟩ := h
  exact ⟨W, Grow.refl _ _, fun F => Fr.refl _ _ _, fun _ _ ok => ok, by simp only [RepV]⟩
/-- a held list or tuple may be walked -/
theorem wk_heldL {W : Wd} {H : Hp} {F : List Addr} {m : Md} {xs : List PV} {x : V} {b : Bool} (h : Held K W H F m (.lst xs) x) (hm : m.walk b = true) :
    ∃ a, x = .ref a ∧ (∃ ys, SqL K H a ys) ∧ Wk K T (L2.Itl K a) xs W H (ownA m x ++ onF b F) := by
  cases m with
  | sh =>
    have h : RepV K W H (.lst xs) x := h
    simp only [RepV] at h
    obtain ⟨a, vs, rfl, s, r⟩ := h
    exact ⟨a, rfl, ⟨vs, .inl s.2⟩, wk_list r fun W' H' g f => g.rd a _ s.1 trivial s.2⟩
  | own =>
    obtain ⟨a, rfl, vs, e, r⟩ := h
    exact ⟨a, rfl, ⟨vs, .of e⟩, wk_list r fun W' H' g f => .inl (f a _ e (.inl (by simp [ownA])))⟩
  | bor =>
    obtain ⟨a, rfl, ⟨⟨vs, e, r⟩, ha⟩ | ⟨ys, vs, e, _⟩⟩ := h
    · have hb : b = true := hm
      subst hb
      exact ⟨a, rfl, ⟨vs, .of e⟩, wk_list r fun W' H' g f => .inl (f a _ e (.inl (by simp [ownA, onF, ha])))⟩
    · cases e
  | brf => cases hm
theorem wk_heldT {W : Wd} {H : Hp} {F : List Addr} {m : Md} {xs : List PV} {x : V} {b : Bool} (h : Held K W H F m (.tup xs) x) (hm : m.walk b = true) :
    ∃ a, x = .ref a ∧ (∃ ys, SqT K H a ys) ∧ Wk K T (L2.Itt K a) xs W H (ownA m x ++ onF b F) := by
  cases m with
  | sh =>
    have h : RepV K W H (.tup xs) x := h
    simp only [RepV] at h
    obtain ⟨a, vs, rfl, s, r⟩ := h
    exact ⟨a, rfl, ⟨vs, s.imp (fun z => .inl z.2) (·.1)⟩, wk_tup r fun W' H' g f => s.imp (fun z => .inl (g.tp a _ z.1 z.2)) (·.1)⟩
  | own => obtain ⟨a, _, z⟩ := h; exact z.elim
  | bor =>
    obtain ⟨a, rfl, z | ⟨ys, vs, e, w, r⟩⟩ := h
    · exact z.1.elim
    · cases e
      exact ⟨a, rfl, ⟨vs, .inr w⟩, wk_tup r fun W' H' g f => .inr w⟩
  | brf => obtain ⟨a, _, z⟩ := h; exact z.elim
end
section
variable {X : L2.Cx} {T : Tb} {G : Prg} {Φ : Phi} {g : Sg} {sc : PySem.Scope} {N : List Str} {exc : Nat → Value} {WX : WXn} {tg : PySem.Expr}
theorem i_rng1 (C : Ctx X T G Φ g sc N exc WX) {b : Bool} {e : CE} {pe : PySem.Expr} {p pos : PySem.Pos} (hb : ("range" : Str) ∈ g.blt) (hg : glB sc "range" = true) (hst : noStar pe = true) (h : PEe X T WX pe (simpE e) (evE G Φ e)) :
    PIe X T WX tg (.Call (.Name "range" p) [pe] [] pos) b (evI G Φ b (.rng1 e)) := by
  refine pi_imp (L2.pi_range1 (gl_of C hg) (C.blt _ hb) (L2.pa_cons h L2.pa_nil (star_of hst)) (star_of hst)) fun σ H R q => ?_
  obtain ⟨W, S, r, A, F, a0, q⟩ := q
  refine ⟨W, S, r, A, F, a0, ?_⟩
  simp only [evI] at q
  have w0 : ∀ {H'}, Fr H H' F (simpE e) → Fr H H' F false := fun f a o e z => f a o e (z.imp id no_t)
  cases c : evE G Φ e r S with
  | bad => rw [c] at q; exact q.elim
  | exc x S' => rw [c] at q; exact fun W' H' g' f' ok => q W' H' g' (w0 f') ok
  | ok v m S1 =>
    rw [c] at q
    simp only [Res.bindI_ok] at q
    intro W1 H1 x g1 f1 hx ok1
    cases v with
    | int j =>
      obtain ⟨rfl, rfl⟩ := int_held hx
      dsimp only at q
      by_cases hj : -4611686018427387904 ≤ j ∧ j < 4611686018427387904
      · rw [if_pos hj] at q
        exact ⟨j, rfl, hj.1, hj.2, q W1 H1 _ [] g1 (w0 f1) wk_range ok1⟩
      · rw [if_neg hj] at q
        exact q.elim
    | _ => exact q.elim
theorem i_rng2 (C : Ctx X T G Φ g sc N exc WX) {b : Bool} {e f : CE} {pe pf : PySem.Expr} {p pos : PySem.Pos} (hb : ("range" : Str) ∈ g.blt) (hg : glB sc "range" = true) (hst : noStar pe = true) (hst2 : noStar pf = true) (h : PEe X T WX pe (simpE e) (evE G Φ e)) (h2 : PEe X T WX pf (simpE f) (evE G Φ f)) :
    PIe X T WX tg (.Call (.Name "range" p) [pe, pf] [] pos) b (evI G Φ b (.rng2 e f)) := by
  have e1 : ∀ env, PySem.starEach [pe, pf] env = [(false, PySem.eval pe env), (false, PySem.eval pf env)] := fun env => by rw [star_of hst, star_of hst2]; rfl
  refine pi_imp (L2.pi_range2 (gl_of C hg) (C.blt _ hb) (L2.pa_cons h (L2.pa_cons h2 L2.pa_nil (star_of hst2)) (star_of hst)) (e1 _) (by rw [star_of hst2]; rfl)) fun σ H R q => ?_
  obtain ⟨W, S, r, A, F, a0, q⟩ := q
  refine ⟨W, S, r, A, F, a0, ?_⟩
  simp only [evI] at q
  cases c : evE G Φ e r S with
  | bad => rw [c] at q; exact q.elim
  | exc x S' => rw [c] at q; exact fun W' H' g' f' ok => q W' H' g' (fun a o e z => f' a o e (z.imp id no_t)) ok
  | ok v m S1 =>
    rw [c] at q
    simp only [Res.bindI_ok] at q
    intro W1 H1 x g1 f1 hx ok1
    have f1' : Fr H H1 F false := fun a o e z => f1 a o e (z.imp id no_t)
    refine ⟨W1, S1, r, A, ownA m x ++ F, a0.next g1 f1 ok1, ?_⟩
    cases c2 : evE G Φ f r S1 with
    | bad => rw [c2] at q; exact q.elim
    | exc x S' => rw [c2] at q; exact fun W' H' g' f' ok => q W' H' (g1.trans g') (f1'.trans (s2 := false) (fun a o e z => f' a o e (z.imp id no_t)) id id) ok.drop
    | ok u n S2 =>
      rw [c2] at q
      simp only [Res.bindI_ok] at q
      intro W2 H2 y g2 f2 hy ok2
      have f2' : Fr H H2 F false := f1'.trans (s2 := false) (fun a o e z => f2 a o e (z.imp id no_t)) id id
      cases v with
      | int i =>
        obtain ⟨rfl, rfl⟩ := int_held hx
        cases u with
        | int j =>
          obtain ⟨rfl, rfl⟩ := int_held hy
          dsimp only at q
          by_cases hj : -4611686018427387904 ≤ i ∧ i < 4611686018427387904 ∧ -4611686018427387904 ≤ j ∧ j < 4611686018427387904
          · rw [if_pos hj] at q
            exact ⟨i, j, rfl, hj, q W2 H2 _ [] (g1.trans g2) f2' wk_range ok2⟩
          · rw [if_neg hj] at q
            exact q.elim
        | _ => exact q.elim
      | _ => cases u <;> exact q.elim
/-! ### targets -/
def tgS : Tg → List Nat
  | .nm i => [i]
  | .tp2 a b => tgS a ++ tgS b
  | .tp3 a b c => tgS a ++ (tgS b ++ tgS c)
def TGi (K : PySem.W.Frag) (T : Tb) (t : Tg) : L2.TG := fun v σ H Q => ∃ W S r A F x, SlsR K W H r σ A ∧ Ok K T W H S F ∧ RepV K W H x v ∧ match bindG S t x r with
  | some r' => ∀ σ' A', SlsR K W H r' σ' A' → A'.Sublist A → (∀ i, i ∉ tgS t → σ'[i]? = σ[i]?) → σ'.length = σ.length → Q σ' H
  | none => False
theorem SlsR.set {K : PySem.W.Frag} {W : Wd} {H : Hp} {x : Sl} {o : Option V} {B : List Addr} (hx : SlR K W H x o B) : ∀ {r : Env} {os : List (Option V)} {A : List Addr} {i : Nat}, SlsR K W H r os A → i < r.length → ∃ A1 A0 A2, A = A1 ++ (A0 ++ A2) ∧ SlsR K W H (r.set i x) (os.set i o) (A1 ++ (B ++ A2))
  | [], _, _, _, _, h => by simp at h
  | s :: r, os, A, 0, h, _ => by
    obtain ⟨p, t, D, E, rfl, rfl, h1, h2⟩ := h
    exact ⟨[], D, E, rfl, o, t, B, E, rfl, rfl, hx, h2⟩
  | s :: r, os, A, i + 1, h, hi => by
    obtain ⟨p, t, D, E, rfl, rfl, h1, h2⟩ := h
    obtain ⟨A1, A0, A2, rfl, q⟩ := SlsR.set (i := i) hx h2 (by simpa using hi)
    exact ⟨D ++ A1, A0, A2, by simp, p, t.set i o, D, A1 ++ (B ++ A2), rfl, by simp, h1, q⟩
theorem SlsR.setSh {K : PySem.W.Frag} {W : Wd} {H : Hp} {v : PV} {x : V} {r : Env} {os : List (Option V)} {A : List Addr} {i : Nat} (hx : RepV K W H v x) (h : SlsR K W H r os A) (hi : i < r.length) : ∃ A', A'.Sublist A ∧ SlsR K W H (r.set i (.sh v)) (os.set i (some x)) A' := by
  obtain ⟨A1, A0, A2, rfl, q⟩ := SlsR.set (x := .sh v) (o := some x) (B := []) ⟨rfl, x, rfl, hx⟩ h hi
  exact ⟨A1 ++ ([] ++ A2), (List.Sublist.refl A1).append (List.sublist_append_right A0 A2), q⟩
def ckT (sc : PySem.Scope) (N : List Str) : Tg → PySem.Expr → Bool
  | .nm i, e => match e with
    | .Name x _ => decide (N[i]? = some x) && locB sc x
    | _ => false
  | .tp2 a b, e => match e with
    | .Tuple [e1, e2] _ _ => noStar e1 && noStar e2 && ckT sc N a e1 && ckT sc N b e2
    | _ => false
  | .tp3 a b c, e => match e with
    | .Tuple [e1, e2, e3] _ _ => noStar e1 && noStar e2 && noStar e3 && ckT sc N a e1 && ckT sc N b e2 && ckT sc N c e3
    | _ => false
theorem assign_star {e : PySem.Expr} {es : List PySem.Expr} {env : PySem.Env} (h : noStar e = true) : PySem.assignEach (e :: es) env = (false, PySem.assign e env) :: PySem.assignEach es env := by
  cases e <;> first | rfl | cases h
theorem tg_imp {X : L2.Cx} {e : PySem.Expr} {t t' : L2.TG} (h : L2.PG X e t) (i : ∀ v σ H Q, t' v σ H Q → t v σ H Q) : L2.PG X e t' := ⟨fun pins s σ H v u Q I r q => h.run pins s σ H v u Q I r (i v σ H Q q)⟩
theorem tup2 {K : PySem.W.Frag} {W : Wd} {H : Hp} {x y : PV} {v : V} (h : RepV K W H (.tup [x, y]) v) : ∃ a p q, v = .ref a ∧ SqT K H a [p, q] ∧ RepV K W H x p ∧ RepV K W H y q := by
  simp only [RepV, RepVs] at h
  obtain ⟨a, vs, rfl, t, p, r, rfl, h1, q, r', rfl, h2, rfl⟩ := h
  exact ⟨a, p, q, rfl, t.imp (fun z => .inl z.2) (·.1), h1, h2⟩
theorem tup3 {K : PySem.W.Frag} {W : Wd} {H : Hp} {x y z : PV} {v : V} (h : RepV K W H (.tup [x, y, z]) v) : ∃ a p q w, v = .ref a ∧ SqT K H a [p, q, w] ∧ RepV K W H x p ∧ RepV K W H y q ∧ RepV K W H z w := by
  simp only [RepV, RepVs] at h
  obtain ⟨a, vs, rfl, t, p, r, rfl, h1, q, r', rfl, h2, w, r2, rfl, h3, rfl⟩ := h
  exact ⟨a, p, q, w, rfl, t.imp (fun z => .inl z.2) (·.1), h1, h2, h3⟩
theorem sndT (C : Ctx X T G Φ g sc N exc WX) : ∀ (t : Tg) (e : PySem.Expr), ckT sc N t e = true → L2.PG X e (TGi X.K T t)
  | .nm i, e, h => by
    simp only [ckT] at h
    split at h
    · simp only [Bool.and_eq_true, decide_eq_true_eq] at h
      refine tg_imp (L2.pg_name (i := i) (by rw [C.hN]; exact C.nd) (by rw [C.hN]; exact h.1) (loc_of C h.2) (C.fnl _ h.2)) fun v σ H Q q => ?_
      obtain ⟨W, S, r, A, F, x, sl, ok, rx, q⟩ := q
      simp only [bindG, setS] at q
      split at q
      · rename_i r' e
        split at e
        · rename_i hi
          cases e
          obtain ⟨A', sub, s'⟩ := sl.setSh rx hi
          exact q _ A' s' sub (fun j hj => by rw [List.getElem?_set_ne]; intro z; exact hj (by simp [tgS, z])) (List.length_set ..)
        · cases e
      · exact q.elim
    · cases h
  | .tp2 a b, e, h => by
    simp only [ckT] at h
    split at h
    · rename_i e1 e2 k pos
      simp only [Bool.and_eq_true] at h
      obtain ⟨⟨⟨n1, n2⟩, c1⟩, c2⟩ := h
      have P1 := sndT C a e1 c1
      have P2 := sndT C b e2 c2
      refine tg_imp (L2.pg_tup (n := 2) C.calm (L2.pgs_cons P1 (L2.pgs_cons P2 L2.pgs_nil (by rw [assign_star n2]; rfl)) (by rw [assign_star n1]; rfl)) (by rw [assign_star n1, assign_star n2]; rfl) (by rw [assign_star n1, assign_star n2]; rfl)) fun v σ H Q q => ?_
      obtain ⟨W, S, r, A, F, x, sl, ok, rx, q⟩ := q
      simp only [bindG] at q
      split at q
      · rename_i r' e
        split at e
        · rename_i x1 x2 ev
          obtain ⟨r1, b1, b2⟩ := Option.bind_eq_some_iff.mp e
          obtain ⟨ad, p1, p2, rfl, t, h1, h2⟩ := tup2 (tup_view ok rx ev)
          refine ⟨ad, _, rfl, t, rfl, p1, [p2], rfl, W, S, r, A, F, x1, sl, ok, h1, ?_⟩
          rw [b1]
          intro σ1 A1 s1 sub1 k1 l1
          refine ⟨p2, [], rfl, W, S, r1, A1, F, x2, s1, ok, h2, ?_⟩
          rw [b2]
          intro σ2 A2 s2 sub2 k2 l2
          refine ⟨rfl, q σ2 A2 s2 (sub2.trans sub1) (fun i hi => ?_) (l2.trans l1)⟩
          simp only [tgS, List.mem_append, not_or] at hi
          rw [k2 i hi.2, k1 i hi.1]
        · cases e
      · exact q.elim
    · cases h
  | .tp3 a b c, e, h => by
    simp only [ckT] at h
    split at h
    · rename_i e1 e2 e3 k pos
      simp only [Bool.and_eq_true] at h
      obtain ⟨⟨⟨⟨⟨n1, n2⟩, n3⟩, c1⟩, c2⟩, c3⟩ := h
      have P1 := sndT C a e1 c1
      have P2 := sndT C b e2 c2
      have P3 := sndT C c e3 c3
      refine tg_imp (L2.pg_tup (n := 3) C.calm (L2.pgs_cons P1 (L2.pgs_cons P2 (L2.pgs_cons P3 L2.pgs_nil (by rw [assign_star n3]; rfl)) (by rw [assign_star n2]; rfl)) (by rw [assign_star n1]; rfl)) (by rw [assign_star n1, assign_star n2, assign_star n3]; rfl) (by rw [assign_star n1, assign_star n2, assign_star n3]; rfl)) fun v σ H Q q => ?_
      obtain ⟨W, S, r, A, F, x, sl, ok, rx, q⟩ := q
      simp only [bindG] at q
      split at q
      · rename_i r' e
        split at e
        · rename_i x1 x2 x3 ev
          obtain ⟨r1, b1, e⟩ := Option.bind_eq_some_iff.mp e
          obtain ⟨r2, b2, b3⟩ := Option.bind_eq_some_iff.mp e
          obtain ⟨ad, p1, p2, p3, rfl, t, h1, h2, h3⟩ := tup3 (tup_view ok rx ev)
          refine ⟨ad, _, rfl, t, rfl, p1, _, rfl, W, S, r, A, F, x1, sl, ok, h1, ?_⟩
          rw [b1]
          intro σ1 A1 s1 sub1 k1 l1
          refine ⟨p2, _, rfl, W, S, r1, A1, F, x2, s1, ok, h2, ?_⟩
          rw [b2]
          intro σ2 A2 s2 sub2 k2 l2
          refine ⟨p3, [], rfl, W, S, r2, A2, F, x3, s2, ok, h3, ?_⟩
          rw [b3]
          intro σ3 A3 s3 sub3 k3 l3
          refine ⟨rfl, q σ3 A3 s3 ((sub3.trans sub2).trans sub1) (fun i hi => ?_) ((l3.trans l2).trans l1)⟩
          simp only [tgS, List.mem_append, not_or] at hi
          rw [k3 i hi.2.2, k2 i hi.2.1, k1 i hi.1]
        · cases e
      · exact q.elim
    · cases h
/-! ### slots forgotten -/
def wipeR (r : Env) : List Nat → Env
  | [] => r
  | v :: vs => (wipeR r vs).set v .un
theorem wipeR_len (r : Env) : ∀ vs : List Nat, (wipeR r vs).length = r.length
  | [] => rfl
  | v :: vs => by unfold wipeR; rw [List.length_set, wipeR_len r vs]
theorem wipeR_out {r : Env} {i : Nat} : ∀ {vs : List Nat}, i ∉ vs → (wipeR r vs)[i]? = r[i]?
  | [], _ => rfl
  | v :: vs, h => by
    unfold wipeR
    rw [List.getElem?_set_ne (fun e => h (by simp [e]))]
    exact wipeR_out fun m => h (List.mem_cons_of_mem _ m)
theorem SlsR.wipe {K : PySem.W.Frag} {W : Wd} {H : Hp} {r : Env} {σ : L2.St} {A : List Addr} (h : SlsR K W H r σ A) : ∀ vs : List Nat, ∃ A', A'.Sublist A ∧ SlsR K W H (wipeR r vs) (L2.wipe σ vs) A'
  | [] => ⟨A, .refl _, h⟩
  | v :: vs => by
    obtain ⟨A1, s1, h1⟩ := SlsR.wipe h vs
    unfold wipeR L2.wipe
    by_cases hv : v < (wipeR r vs).length
    · obtain ⟨B1, B0, B2, rfl, q⟩ := SlsR.set (x := .un) (o := none) (B := []) rfl h1 hv
      exact ⟨_, ((List.Sublist.refl B1).append (List.sublist_append_right B0 B2)).trans s1, q⟩
    · have hl := h1.len
      rw [List.set_eq_of_length_le (by omega), List.set_eq_of_length_le (by omega)]
      exact ⟨A1, s1, h1⟩
/-- alike but at V -/
def agr (V : Nat → Prop) (r r' : Env) : Prop := r.length = r'.length ∧ ∀ i, ¬ V i → r[i]? = r'[i]?
theorem agr_bind {S : Sto} : ∀ (t : Tg) {x : PV} {V : Nat → Prop} {r r' r1 : Env}, agr V r r' → bindG S t x r = some r1 → ∃ r1', bindG S t x r' = some r1' ∧ agr (fun i => V i ∧ i ∉ tgS t) r1 r1'
  | .nm i, x, V, r, r', r1, h, e => by
    simp only [bindG, setS] at e ⊢
    rw [← h.1]
    split at e
    · rename_i hi
      cases e
      rw [if_pos hi]
      refine ⟨_, rfl, by simp [h.1], fun j hj => ?_⟩
      by_cases z : i = j
      · subst z
        rw [List.getElem?_set_self hi, List.getElem?_set_self (by rw [← h.1]; exact hi)]
      · rw [List.getElem?_set_ne z, List.getElem?_set_ne z]
        exact h.2 j fun v => hj ⟨v, by simp only [tgS, List.mem_singleton]; exact fun e => z e.symm⟩
    · cases e
  | .tp2 a b, x, V, r, r', r1, h, e => by
    simp only [bindG] at e ⊢
    split at e
    · rename_i y z ev
      obtain ⟨ra, e1, e2⟩ := Option.bind_eq_some_iff.mp e
      obtain ⟨ra', q1, h1⟩ := agr_bind a h e1
      obtain ⟨rb', q2, h2⟩ := agr_bind b h1 e2
      refine ⟨rb', by rw [q1]; exact q2, h2.1, fun i hi => h2.2 i fun z => hi ⟨z.1.1, ?_⟩⟩
      simp only [tgS, List.mem_append, not_or]
      exact ⟨z.1.2, z.2⟩
    · cases e
  | .tp3 a b c, x, V, r, r', r1, h, e => by
    simp only [bindG] at e ⊢
    split at e
    · rename_i y z u ev
      obtain ⟨ra, e1, e2⟩ := Option.bind_eq_some_iff.mp e
      obtain ⟨rb, e3, e4⟩ := Option.bind_eq_some_iff.mp e2
      obtain ⟨ra', q1, h1⟩ := agr_bind a h e1
      obtain ⟨rb', q2, h2⟩ := agr_bind b h1 e3
      obtain ⟨rc', q3, h3⟩ := agr_bind c h2 e4
      refine ⟨rc', by rw [q1]; show (bindG S b z ra').bind (bindG S c u) = _; rw [q2]; exact q3, h3.1, fun i hi => h3.2 i fun z => hi ⟨z.1.1.1, ?_⟩⟩
      simp only [tgS, List.mem_append, not_or]
      exact ⟨z.1.1.2, z.1.2, z.2⟩
    · cases e
theorem bind_wipe {S : Sto} {t : Tg} {x : PV} {r r1 : Env} (e : bindG S t x r = some r1) : bindG S t x (wipeR r (tgS t)) = some r1 := by
  obtain ⟨r1', e1, h⟩ := agr_bind t (V := fun i => i ∈ tgS t) (r' := wipeR r (tgS t)) ⟨(wipeR_len _ _).symm, fun i hi => (wipeR_out hi).symm⟩ e
  rw [e1]
  congr 1
  exact (List.ext_getElem? fun i => h.2 i fun z => z.2 z.1).symm
theorem wipe_same {σ σ' : L2.St} {vs : List Nat} (hl : σ'.length = σ.length) (h : ∀ i, i ∉ vs → σ'[i]? = (L2.wipe σ vs)[i]?) : L2.wipe σ' vs = L2.wipe σ vs := by
  refine List.ext_getElem? fun i => ?_
  by_cases hi : i ∈ vs
  · by_cases hb : i < σ.length
    · have w : ∀ τ : L2.St, i < τ.length → (L2.wipe τ vs)[i]? = some none := fun τ ht => by
        cases e : (L2.wipe τ vs)[i]? with
        | none =>
          rw [List.getElem?_eq_none_iff, L2.wipe_length] at e
          omega
        | some o =>
          cases o with
          | none => rfl
          | some x => exact absurd hi (L2.wipe_some e).2
      rw [w σ hb, w σ' (by omega)]
    · rw [List.getElem?_eq_none (by rw [L2.wipe_length]; omega), List.getElem?_eq_none (by rw [L2.wipe_length]; omega)]
  · rw [L2.wipe_out hi]
    exact h i hi
/-- a list of one's own is written -/
theorem Ok.wr {K : PySem.W.Frag} {W : Wd} {H : Hp} {S : Sto} {D : Addr} {F : List Addr} {o : HO} (ok : Ok K T W H S (D :: F)) (nt : nT o := by trivial) : Ok K T W (upd H D o) S (D :: F) ∧ Grow W H W (upd H D o) ∧ Fr H (upd H D o) F false ∧ (D ∉ F) := by
  obtain ⟨A, h1, h2, h3⟩ := ok.st
  obtain ⟨⟨u, eu, _⟩, nsh⟩ := h3 D (by simp)
  have nd := List.nodup_cons.mp (show (D :: (F ++ A)).Nodup from h2)
  have gr : Grow W H W (upd H D o) := by
    refine ⟨⟨[], (List.append_nil _).symm⟩, fun _ h => h, fun a w hs _ r => ?_, fun a xs hs e => ?_, fun a o u hs e => ?_⟩
    · have ne : a ≠ D := by rintro rfl; exact nsh hs
      exact r.imp (fun r => by rw [L2.upd_ne ne]; exact r) (fun ⟨x, r⟩ => ⟨x, by rw [L2.upd_ne ne]; exact r⟩)
    · rw [L2.upd_ne (by rintro rfl; exact nsh hs)]; exact e
    · rw [L2.upd_ne (by rintro rfl; exact nsh hs)]; exact e
  refine ⟨⟨⟨A, h1.grow gr fun a ha => ?_, h2, fun a ha => ?_⟩, fun a hs => ?_⟩, gr, ⟨fun a w e hh => ?_, fun z => nd.1 (List.mem_append_left _ z)⟩⟩
  · rw [L2.upd_ne]
    rintro rfl
    exact nd.1 (List.mem_append_right _ ha)
  · obtain ⟨⟨w, e, nt'⟩, n⟩ := h3 a ha
    by_cases z : a = D
    · subst z; exact ⟨⟨_, L2.upd_same, nt⟩, n⟩
    · exact ⟨⟨w, by rw [L2.upd_ne z]; exact e, nt'⟩, n⟩
  · obtain ⟨w, e⟩ := ok.shd a hs
    exact ⟨w, by rw [L2.upd_ne (by rintro rfl; exact nsh hs)]; exact e⟩
  · rw [L2.upd_ne]
    · exact e
    · rintro rfl
      rcases hh with hh | hh
      · exact nd.1 (List.mem_append_left _ hh)
      · cases hh
/-! ### comprehensions -/
def ownOf (N : List Str) (t : Tg) : List (Str × Nat) := (tgS t).filterMap fun i => N[i]?.map fun x => (x, i)
theorem lk_rel {sc : PySem.Scope} : ∀ {names : List (Str × PySem.NameKind)} {x : Str} {k : PySem.NameKind}, names.lookup x = some k →
    ∃ k', (names.map fun (n, k) => if (k == PySem.NameKind.free && sc.kind == .function && sc.names.lookup n == some .cell) then (n, PySem.NameKind.cell) else (n, k)).lookup x = some k' ∧ (k' = k ∨ (k = .free ∧ k' = .cell))
  | [], _, _, h => by simp at h
  | (n, k0) :: r, x, k, h => by
    rw [List.lookup_cons] at h
    simp only [List.map_cons]
    cases hx : x == n with
    | true =>
      rw [hx] at h
      obtain rfl : k0 = k := Option.some.inj h
      cases hc : (k0 == PySem.NameKind.free && sc.kind == .function && sc.names.lookup n == some .cell) with
      | true =>
        rw [if_pos rfl, List.lookup_cons, hx]
        simp only [Bool.and_eq_true, beq_iff_eq] at hc
        exact ⟨.cell, rfl, .inr ⟨hc.1.1, rfl⟩⟩
      | false =>
        rw [if_neg Bool.false_ne_true, List.lookup_cons, hx]
        exact ⟨k0, rfl, .inl rfl⟩
    | false =>
      rw [hx] at h
      obtain ⟨k', e, z⟩ := lk_rel (sc := sc) h
      refine ⟨k', ?_, z⟩
      cases hc : (k0 == PySem.NameKind.free && sc.kind == .function && sc.names.lookup n == some .cell) with
      | true => rw [if_pos rfl, List.lookup_cons, hx]; exact e
      | false => rw [if_neg Bool.false_ne_true, List.lookup_cons, hx]; exact e
/-- within a comprehension's block -/
theorem Ctx.blk (C : Ctx X T G Φ g sc N exc WX) {scope : PySem.Scope} (s : PySem.Shared) (H : Hp) (D : Addr) (cl : List (Str × Addr)) (fp : List Addr) : Ctx (X.blk s H scope (PySem.compEnvC scope cl D X.env) fp) T G Φ g scope N exc (fun _ _ _ => False) where
  calm := C.calm
  hN := C.hN
  nd := C.nd
  vis := fun x h => by
    have e : ∀ k, scope.names.lookup x = some k → ∃ k', (PySem.compEnvC scope cl D X.env).scope.names.lookup x = some k' ∧ (k' = k ∨ (k = .free ∧ k' = .cell)) := fun k h => lk_rel (sc := X.env.scope) h
    unfold visB at h
    split at h
    · obtain ⟨k', q, rfl | ⟨z, _⟩⟩ := e _ ‹_›
      · exact .inl q
      · cases z
    · obtain ⟨k', q, rfl | ⟨z, _⟩⟩ := e _ ‹_›
      · exact .inr (.inl q)
      · cases z
    · obtain ⟨k', q, rfl | ⟨_, rfl⟩⟩ := e _ ‹_›
      · exact .inr (.inr q)
      · exact .inr (.inl q)
    · cases h
  loc := fun x h => by
    have e : ∀ k, scope.names.lookup x = some k → ∃ k', (PySem.compEnvC scope cl D X.env).scope.names.lookup x = some k' ∧ (k' = k ∨ (k = .free ∧ k' = .cell)) := fun k h => lk_rel (sc := X.env.scope) h
    unfold locB at h
    split at h
    · obtain ⟨k', q, rfl | ⟨z, _⟩⟩ := e _ ‹_›
      · exact .inl q
      · cases z
    · obtain ⟨k', q, rfl | ⟨z, _⟩⟩ := e _ ‹_›
      · exact .inr q
      · cases z
    · cases h
  gl := fun x h => by
    have e : ∀ k, scope.names.lookup x = some k → ∃ k', (PySem.compEnvC scope cl D X.env).scope.names.lookup x = some k' ∧ (k' = k ∨ (k = .free ∧ k' = .cell)) := fun k h => lk_rel (sc := X.env.scope) h
    unfold glB at h
    split at h
    · obtain ⟨k', q, rfl | ⟨z, _⟩⟩ := e _ ‹_›
      · exact q
      · cases z
    · cases h
  cf := fun x h => by
    have e : ∀ k, scope.names.lookup x = some k → ∃ k', (PySem.compEnvC scope cl D X.env).scope.names.lookup x = some k' ∧ (k' = k ∨ (k = .free ∧ k' = .cell)) := fun k h => lk_rel (sc := X.env.scope) h
    rcases h with h | h
    · obtain ⟨k', q, rfl | ⟨z, _⟩⟩ := e _ h
      · exact .inl q
      · cases z
    · obtain ⟨k', q, rfl | ⟨_, rfl⟩⟩ := e _ h
      · exact .inr q
      · exact .inl q
  fnl := fun x h => by
    have e : ∀ k, scope.names.lookup x = some k → ∃ k', (PySem.compEnvC scope cl D X.env).scope.names.lookup x = some k' ∧ (k' = k ∨ (k = .free ∧ k' = .cell)) := fun k h => lk_rel (sc := X.env.scope) h
    unfold locB at h
    split at h
    · obtain ⟨k', q, rfl | ⟨z, _⟩⟩ := e _ ‹_›
      · exact .inr q
      · cases z
    · rename_i hx
      exact .inl (by show (scope.names.lookup x == some .cell) = true; rw [hx]; rfl)
    · cases h
  units := C.units
  tk := fun u s' x => L2.takes0 u s' (by
    obtain ⟨a, B, sI, pins, σ, H, cls, d, e1, e2, e3, e4, e5, e6, e7, e8, c, _, _, w⟩ := x
    exact w.elim)
  con := C.con
  blt := C.blt
  tab := C.tab
  fn := C.fn
  cl := C.cl
  me := C.me
  nw := C.nw
  fl := C.fl
  rz := C.rz
/-- a comprehension's turn -/
def lcF (tc : Env → Sto → TRes) (el : Env → Sto → Res) (t : Tg) (r : Env) : PV → Sto → LRes := fun x S => match bindG S t x r with
  | none => .bad
  | some r1 => match tc r1 S with
    | .ok true S2 => match el r1 S2 with
      | .ok v .sh S3 => .one v S3
      | .ok v .own S3 => .one v S3
      | _ => .bad
    | .ok false S2 => .skip S2
    | _ => .bad
abbrev WXF : WXn := fun _ _ _ => False
theorem lc_read {s : Bool} {ev : Env → Sto → IRes} {tc : Env → Sto → TRes} {el : Env → Sto → Res} {t : Tg} {K : PySem.W.Frag} (σ : L2.St) (H : Hp) (Q : L2.VK)
    (h : TIe K T WX false (fun r S => (ev r S).bind fun xs S1 => if lim < xs.length then .bad else lcI (lcF tc el t r) xs [] S1) σ H Q) :
    L2.tLc (TIi K T WX true ev) (TGi K T t) (TIt K T WXF false tc) (TIe K T WXF s el) (tgS t) σ H Q := by
  obtain ⟨W, S, r, A, F, a0, q⟩ := h
  refine ⟨W, S, r, A, F, a0, ?_⟩
  simp only at q
  cases c1 : ev r S with
  | bad => rw [c1] at q; exact q.elim
  | exc c S' => rw [c1] at q; exact q
  | ok items S1 =>
    rw [c1] at q
    simp only [IRes.bind_ok] at q
    by_cases hl : lim < items.length
    · rw [if_pos hl] at q; exact q.elim
    rw [if_neg hl] at q
    intro W1 H1 J B g1 f1 wk ok1 D nD
    have wk : Wk K T J items W1 H1 (B ++ F) := wk
    have okD := ok1.laid (o := .lst []) nD
    have a1 : SlsR K W1 H1 r σ A := (a0.same (F := F) g1 f1 ok1.drop).sl
    -- the invariant
    refine ⟨fun i m H2 => m = items.length - i ∧ i ≤ items.length ∧ ∃ W2 S2 acc accV, Grow W1 H1 W2 H2 ∧ Fr H1 H2 (B ++ F) false ∧ Ok K T W2 H2 S2 (D :: (B ++ F)) ∧ H2 D = some (.lst accV) ∧ RepVs K W2 H2 acc accV ∧ acc.length ≤ i ∧
      KE K T W H F false WX σ Q (lcI (lcF tc el t r) (items.drop i) acc S2), ⟨items.length, by simp, Nat.zero_le _, W1, S1, [], [], Grow.laid nD, Fr.laid nD, okD, L2.upd_same, by simp [RepVs], Nat.le_refl _, q⟩, ?_⟩
    rintro i m H2 ⟨rfl, hi, W2, S2, acc, accV, g2, f2, ok2, hD, ra, la, q2⟩
    obtain ⟨wg, ws⟩ := wk W2 H2 g2 f2
    by_cases hlt : i < items.length
    · right
      obtain ⟨go, yl⟩ := wg i items[i] (List.getElem?_eq_getElem hlt)
      rw [List.drop_eq_getElem_cons hlt] at q2
      simp only [lcI] at q2
      refine ⟨go, fun H' => i + 1 ≤ items.length ∧ ∃ W2 S2 acc accV, Grow W1 H1 W2 H' ∧ Fr H1 H' (B ++ F) false ∧ Ok K T W2 H' S2 (D :: (B ++ F)) ∧ H' D = some (.lst accV) ∧ RepVs K W2 H' acc accV ∧ acc.length ≤ i + 1 ∧
        KE K T W H F false WX σ Q (lcI (lcF tc el t r) (items.drop (i + 1)) acc S2), fun H' ⟨h1, h2⟩ => ⟨items.length - (i + 1), by omega, rfl, h1, h2⟩, fun y H3 hy => ?_⟩
      obtain ⟨W3, g3, f3, okm, ry⟩ := yl y H3 hy
      have ok3 := okm _ _ ok2
      have hD3 : H3 D = some (.lst accV) := f3 [] D _ hD (.inr rfl)
      have s3 : SlsR K W3 H3 r σ A := a1.grow (g2.trans g3) fun a ha => by
        obtain ⟨⟨o, e⟩, _⟩ := ok1.ownd (List.mem_append_right B (a0.sub a ha))
        rw [e, f3 [] a o (f2 a o e (.inl (List.mem_append_right B (a0.sub a ha)))) (.inr rfl)]
      obtain ⟨A3, sub3, sw⟩ := s3.wipe (tgS t)
      cases cb : bindG S2 t items[i] r with
      | none => simp only [lcF, cb] at q2; exact q2.elim
      | some r1 =>
        refine ⟨W3, S2, _, A3, _, items[i], sw, ok3, ry, ?_⟩
        rw [bind_wipe cb]
        intro σ4 A4 s4 sub4 k4 l4
        refine ⟨wipe_same (by rw [l4, L2.wipe_length]) k4, ?_⟩
        have at4 : At K T W3 S2 r1 A4 (D :: (B ++ F)) σ4 H3 := ⟨s4, fun a ha => List.mem_cons_of_mem _ (List.mem_append_right _ (a0.sub a (sub3.subset (sub4.subset ha)))), ok3⟩
        refine ⟨W3, S2, r1, A4, _, at4, ?_⟩
        simp only [lcF, cb] at q2
        cases c2 : tc r1 S2 with
        | bad => rw [c2] at q2; exact q2.elim
        | exc c S' => rw [c2] at q2; exact q2.elim
        | ok b S4 =>
          rw [c2] at q2
          intro W5 H5 g5 f5 ok5
          have g15 : Grow W1 H1 W5 H5 := (g2.trans g3).trans g5
          have f15 : Fr H1 H5 (B ++ F) false := fun a o e z => f5 a o (f3 [] a o (f2 a o e z) (.inr rfl)) (z.imp (fun z => List.mem_cons_of_mem _ z) id)
          have hD5 : H5 D = some (.lst accV) := f5 D _ hD3 (.inl List.mem_cons_self)
          cases b with
          | false => exact ⟨hlt, W5, S4, acc, accV, g15, f15, ok5, hD5, ra.grow (g3.trans g5) _ _, by omega, q2⟩
          | true =>
            rw [if_pos rfl]
            refine ⟨W5, S4, r1, A4, _, at4.same g5 f5 ok5, ?_⟩
            dsimp only at q2
            cases c3 : el r1 S4 with
            | bad => rw [c3] at q2; exact q2.elim
            | exc c S' => rw [c3] at q2; exact q2.elim
            | ok v m S6 =>
              rw [c3] at q2
              intro W6 H6 y6 g6 f6 hy6 ok6
              have g16 : Grow W1 H1 W6 H6 := g15.trans g6
              have f16 : Fr H1 H6 (B ++ F) false := fun a o e z => f6 a o (f15 a o e z) (.inl (z.elim (fun z => List.mem_cons_of_mem _ z) fun z => nomatch z))
              have hD6 : H6 D = some (.lst accV) := f6 D _ hD5 (.inl List.mem_cons_self)
              have ra6 := ra.grow ((g3.trans g5).trans g6) _ _
              have fin : ∀ W7, Grow W6 H6 W7 H6 → Ok K T W7 H6 S6 (D :: (B ++ F)) → RepV K W7 H6 v y6 → KE K T W H F false WX σ Q (lcI (lcF tc el t r) (items.drop (i + 1)) (acc ++ [v]) S6) → ∃ acc0, H6 D = some (.lst acc0) ∧ acc0.length < PySem.sizeLine ∧
                  (i + 1 ≤ items.length ∧ ∃ W2 S2 acc accV, Grow W1 H1 W2 (upd H6 D (.lst (acc0 ++ [y6]))) ∧ Fr H1 (upd H6 D (.lst (acc0 ++ [y6]))) (B ++ F) false ∧ Ok K T W2 (upd H6 D (.lst (acc0 ++ [y6]))) S2 (D :: (B ++ F)) ∧ (upd H6 D (.lst (acc0 ++ [y6]))) D = some (.lst accV) ∧
                    RepVs K W2 (upd H6 D (.lst (acc0 ++ [y6]))) acc accV ∧ acc.length ≤ i + 1 ∧ KE K T W H F false WX σ Q (lcI (lcF tc el t r) (items.drop (i + 1)) acc S2)) := fun W7 g7 ok7 rv q3 => by
                obtain ⟨okw, gw, fw, _⟩ := ok7.wr (o := .lst (accV ++ [y6]))
                refine ⟨accV, hD6, ?_, hlt, W7, S6, acc ++ [v], accV ++ [y6], (g16.trans g7).trans gw, fun a o e z => fw a o (f16 a o e z) z, okw, L2.upd_same, ?_, by simp; omega, q3⟩
                · have := ra6.len
                  rw [this]
                  exact Nat.lt_of_lt_of_le (Nat.lt_of_le_of_lt la hlt) (lim_size (by omega))
                · refine RepVs.append ((ra6.grow g7 _ _).grow gw _ _) ?_
                  simp only [RepVs]
                  exact ⟨y6, [], rfl, rv.grow gw _ _, rfl⟩
              cases m with
              | sh => exact fin W6 (Grow.refl _ _) ok6 hy6 q2
              | own =>
                obtain ⟨a, rfl, ow⟩ := hy6
                have ok7 : Ok K T W6 H6 S6 ([a] ++ (D :: (B ++ F))) := ok6
                exact fin _ Grow.addL ok7.addL (ow.shared (by simp)) q2
              | bor => exact q2.elim
              | brf => exact q2.elim
    · left
      have e : i = items.length := by omega
      subst e
      refine ⟨ws _ (Nat.le_refl _), ?_⟩
      rw [List.drop_length] at q2
      simp only [lcI] at q2
      refine q2 W2 H2 (.ref D) (g1.trans g2) (fun a o e z => f2 a o (f1 a o e z) (z.imp (fun z => List.mem_append_right _ z) id)) ⟨D, rfl, accV, hD, ra⟩ ?_
      exact Ok.mid (A := [D]) ok2
theorem folded_of {e : PySem.Expr} {env : PySem.Env} (h : noSet e = true) : ∀ x, PySem.foldedSetIterable e env x = pure x := by
  intro x
  cases e <;> first | rfl | cases h
theorem blk_ok (C : Ctx X T G Φ g sc N exc WX) {scope : PySem.Scope} {t : Tg} (h : L2.blkC N sc scope (ownOf N t) = true) : L2.BlkOk X.N X.env.scope scope (ownOf N t) := by
  have b := L2.blkOk_by h
  rw [C.hN]
  exact ⟨b.kind, b.uniq, b.ix, fun y hy e => C.cf _ (b.free y hy e), b.own⟩
theorem e_lcf (C : Ctx X T G Φ g sc N exc WX) {elt : CE} {t : Tg} {it : CI} {c : CT} {pelt ptg piter pc : PySem.Expr} {scope : PySem.Scope} {pos : PySem.Pos} (hi : PIe X T WX ptg piter true (evI G Φ true it)) (hb : L2.blkC N sc scope (ownOf N t) = true) (ho : (ownOf N t).map (·.2) = tgS t) (ht : ckT scope N t ptg = true)
    (he : ∀ (s : PySem.Shared) (H : Hp) (D : Addr) (cl : List (Str × Addr)) (fp : List Addr), PEe (X.blk s H scope (PySem.compEnvC scope cl D X.env) fp) T WXF pelt (simpE elt) (evE G Φ elt))
    (hc : ∀ (s : PySem.Shared) (H : Hp) (D : Addr) (cl : List (Str × Addr)) (fp : List Addr), PTe (X.blk s H scope (PySem.compEnvC scope cl D X.env) fp) T WXF pc false (evT G Φ c)) (hs : noSet piter = true) :
    PEe X T WX (.ListComp pelt [⟨ptg, piter, [pc], 0⟩] scope pos) false (evE G Φ (.lcf elt t it c)) := by
  refine pe_imp (L2.pe_lc (g := TGi X.K T t) (tt := TIt X.K T WXF false (evT G Φ c)) (te := TIe X.K T WXF (simpE elt) (evE G Φ elt)) C.calm (by rw [C.hN]; exact C.nd) hi (blk_ok C hb) (fun s H D cl fp => sndT (C.blk s H D cl fp) t ptg ht) (fun s H D cl fp => L2.pts_one (hc s H D cl fp)) he (folded_of hs)) fun σ H Q h => ?_
  rw [ho]
  refine lc_read (tc := evT G Φ c) (el := evE G Φ elt) (ev := evI G Φ true it) (s := simpE elt) σ H Q ?_
  have e : evE G Φ (.lcf elt t it c) = fun r S => (evI G Φ true it r S).bind fun xs S1 => if lim < xs.length then .bad else lcI (lcF (evT G Φ c) (evE G Φ elt) t r) xs [] S1 := by
    funext r S
    simp only [evE]
    rfl
  rw [e] at h
  exact h
theorem pts_yes {X : L2.Cx} {K : PySem.W.Frag} : L2.PTs X [] (TIt K T WXF false fun _ S => .ok true S) := ⟨fun pins s σ H Q I h => L2.pts_nil.run pins s σ H Q I (by
  obtain ⟨W, S, r, A, F, a0, q⟩ := h
  exact q W H (Grow.refl _ _) (Fr.refl _ _ _) a0.ok)⟩
theorem e_lc (C : Ctx X T G Φ g sc N exc WX) {elt : CE} {t : Tg} {it : CI} {pelt ptg piter : PySem.Expr} {scope : PySem.Scope} {pos : PySem.Pos} (hi : PIe X T WX ptg piter true (evI G Φ true it)) (hb : L2.blkC N sc scope (ownOf N t) = true) (ho : (ownOf N t).map (·.2) = tgS t) (ht : ckT scope N t ptg = true)
    (he : ∀ (s : PySem.Shared) (H : Hp) (D : Addr) (cl : List (Str × Addr)) (fp : List Addr), PEe (X.blk s H scope (PySem.compEnvC scope cl D X.env) fp) T WXF pelt (simpE elt) (evE G Φ elt)) (hs : noSet piter = true) :
    PEe X T WX (.ListComp pelt [⟨ptg, piter, [], 0⟩] scope pos) false (evE G Φ (.lc elt t it)) := by
  refine pe_imp (L2.pe_lc (g := TGi X.K T t) (tt := TIt X.K T WXF false fun _ S => .ok true S) (te := TIe X.K T WXF (simpE elt) (evE G Φ elt)) C.calm (by rw [C.hN]; exact C.nd) hi (blk_ok C hb) (fun s H D cl fp => sndT (C.blk s H D cl fp) t ptg ht) (fun s H D cl fp => pts_yes (K := X.K)) he (folded_of hs)) fun σ H Q h => ?_
  rw [ho]
  refine lc_read (tc := fun _ S => .ok true S) (el := evE G Φ elt) (ev := evI G Φ true it) (s := simpE elt) σ H Q ?_
  have e : evE G Φ (.lc elt t it) = fun r S => (evI G Φ true it r S).bind fun xs S1 => if lim < xs.length then .bad else lcI (lcF (fun _ S => .ok true S) (evE G Φ elt) t r) xs [] S1 := by
    funext r S
    simp only [evE]
    rfl
  rw [e] at h
  exact h
end
end SR

set_option linter.unusedVariables false
set_option maxRecDepth 100000
set_option maxHeartbeats 0
/-! What is walked: lists, tuples, dicts, texts, enumerate, zip. -/
namespace SR
open PySem (Addr Str Value PyData Heap)
open L2 (V Hp HO Key upd Rd SqL SqT)
section
variable {K : PySem.W.Frag} {T : Tb} {W : Wd} {H : Hp} {F : List Addr}
theorem held_lst {m : Md} {xs : List PV} {x : V} {b : Bool} (h : Held K W H F m (.lst xs) x) (hm : m.walk b = true) :
    ∃ a vs, x = .ref a ∧ RepVs K W H xs vs ∧ ∀ W' H', Grow W H W' H' → Fr H H' (ownA m x ++ onF b F) false → Rd H' a (.lst vs) := by
  cases m with
  | sh =>
    have h : RepV K W H (.lst xs) x := h
    simp only [RepV] at h
    obtain ⟨a, vs, rfl, s, r⟩ := h
    exact ⟨a, vs, rfl, r, fun W' H' g f => g.rd a _ s.1 trivial s.2⟩
  | own =>
    obtain ⟨a, rfl, vs, e, r⟩ := h
    exact ⟨a, vs, rfl, r, fun W' H' g f => .inl (f a _ e (.inl (by simp [ownA])))⟩
  | bor =>
    obtain ⟨a, rfl, ⟨⟨vs, e, r⟩, ha⟩ | ⟨ys, vs, e, _⟩⟩ := h
    · have hb : b = true := hm
      subst hb
      exact ⟨a, vs, rfl, r, fun W' H' g f => .inl (f a _ e (.inl (by simp [ownA, onF, ha])))⟩
    · cases e
  | brf => cases hm
theorem held_tup {m : Md} {xs : List PV} {x : V} {b : Bool} (h : Held K W H F m (.tup xs) x) (hm : m.walk b = true) :
    ∃ a vs, x = .ref a ∧ RepVs K W H xs vs ∧ ∀ W' H', Grow W H W' H' → SqT K H' a vs := by
  cases m with
  | sh =>
    have h : RepV K W H (.tup xs) x := h
    simp only [RepV] at h
    obtain ⟨a, vs, rfl, s, r⟩ := h
    exact ⟨a, vs, rfl, r, fun W' H' g => s.imp (fun z => .inl (g.tp a _ z.1 z.2)) (·.1)⟩
  | own => obtain ⟨a, _, z⟩ := h; exact z.elim
  | bor =>
    obtain ⟨a, rfl, z | ⟨ys, vs, e, w, r⟩⟩ := h
    · exact z.1.elim
    · cases e
      exact ⟨a, vs, rfl, r, fun W' H' g => .inr w⟩
  | brf => obtain ⟨a, _, z⟩ := h; exact z.elim
theorem enumF_get : ∀ (xs : List PV) (n i : Nat), (enumF n xs)[i]? = xs[i]?.map fun x => .tup [.int ((n + i : Nat) : Int), x]
  | [], _, _ => by simp [enumF]
  | x :: xs, n, 0 => by simp [enumF]
  | x :: xs, n, i + 1 => by
    have := enumF_get xs (n + 1) i
    simp only [enumF, List.getElem?_cons_succ, this]
    congr 1
    funext x
    congr 3
    omega
theorem enumF_len : ∀ (xs : List PV) (n : Nat), (enumF n xs).length = xs.length
  | [], _ => rfl
  | x :: xs, n => by simp [enumF, enumF_len xs]
theorem zipF_get : ∀ (xs ys : List PV) (i : Nat) (z : PV), (zipF xs ys)[i]? = some z → ∃ x y, xs[i]? = some x ∧ ys[i]? = some y ∧ z = .tup [x, y]
  | [], _, _, _, h => by simp [zipF] at h
  | _ :: _, [], _, _, h => by simp [zipF] at h
  | x :: xs, y :: ys, 0, z, h => by
    simp [zipF] at h
    exact ⟨x, y, rfl, rfl, h.symm⟩
  | x :: xs, y :: ys, i + 1, z, h => by
    simp only [zipF, List.getElem?_cons_succ] at h
    obtain ⟨u, v, h1, h2, h3⟩ := zipF_get xs ys i z h
    exact ⟨u, v, by simpa using h1, by simpa using h2, h3⟩
theorem zipF_len : ∀ (xs ys : List PV) (i : Nat), (zipF xs ys).length ≤ i → xs.length ≤ i ∨ ys.length ≤ i
  | [], _, i, _ => .inl (Nat.zero_le _)
  | _ :: _, [], i, _ => .inr (Nat.zero_le _)
  | x :: xs, y :: ys, i, h => by
    simp only [zipF, List.length_cons] at h ⊢
    rcases zipF_len xs ys (i - 1) (by omega) with z | z <;> omega
/-- a new pair -/
theorem pair_laid {W : Wd} {H H' : Hp} {p : Addr} {x y : PV} {u v : V} (np : H p = none) (e : H' = upd H p (.tup [u, v])) (r1 : RepV K W H x u) (r2 : RepV K W H y v) :
    ∃ W', Grow W H W' H' ∧ (∀ F, Fr H H' F true) ∧ (∀ S F, Ok K T W H S F → Ok K T W' H' S F) ∧ RepV K W' H' (.tup [x, y]) (.ref p) := by
  subst e
  have g : Grow W H (W.add p) (upd H p (.tup [u, v])) := Grow.laidS np
  refine ⟨W.add p, g, fun F => Fr.laid np, fun S F ok => ok.laidS np, ?_⟩
  simp only [RepV, RepVs]
  exact ⟨p, [u, v], rfl, .inl ⟨.inr rfl, L2.upd_same⟩, _, _, rfl, r1.grow g _ _, _, _, rfl, r2.grow g _ _, rfl⟩
variable {W0 : Wd} {H0 : Hp} {F0 : List Addr}
theorem wk_enumL {a : Addr} {xs : List PV} {vs : List V} (r : RepVs K W0 H0 xs vs) (st : ∀ W H, Grow W0 H0 W H → Fr H0 H F0 false → Rd H a (.lst vs)) : Wk K T (L2.Ite K a) (enumF 0 xs) W0 H0 F0 := fun W H g f => by
  have q : SqL K H a vs := .inl (st W H g f)
  refine ⟨fun i x e => ?_, fun i hi => ⟨vs, q, by rw [enumF_len] at hi; exact Nat.le_trans (Nat.le_of_eq r.len) hi⟩⟩
  rw [enumF_get] at e
  obtain ⟨x', ex, rfl⟩ := Option.map_eq_some_iff.mp e
  obtain ⟨y, ey, ry⟩ := r.get ex
  refine ⟨⟨vs, y, q, ey⟩, fun z H' h => ?_⟩
  obtain ⟨p, w, rfl, np, e', hw⟩ := h
  have := hw vs q
  rw [ey] at this
  cases this
  rw [Nat.zero_add]
  exact pair_laid np e' (by simp only [RepV]) (ry.grow g _ _)
theorem wk_enumT {a : Addr} {xs : List PV} {vs : List V} (r : RepVs K W0 H0 xs vs) (st : ∀ W H, Grow W0 H0 W H → SqT K H a vs) : Wk K T (IteT K a) (enumF 0 xs) W0 H0 F0 := fun W H g f => by
  have q : SqT K H a vs := st W H g
  refine ⟨fun i x e => ?_, fun i hi => ⟨vs, q, by rw [enumF_len] at hi; exact Nat.le_trans (Nat.le_of_eq r.len) hi⟩⟩
  rw [enumF_get] at e
  obtain ⟨x', ex, rfl⟩ := Option.map_eq_some_iff.mp e
  obtain ⟨y, ey, ry⟩ := r.get ex
  refine ⟨⟨vs, y, q, ey⟩, fun z H' h => ?_⟩
  obtain ⟨p, w, rfl, np, e', hw⟩ := h
  have := hw vs q
  rw [ey] at this
  cases this
  rw [Nat.zero_add]
  exact pair_laid np e' (by simp only [RepV]) (ry.grow g _ _)
theorem wk_zipL {a b : Addr} {xs ys : List PV} {vs ws : List V} (r : RepVs K W0 H0 xs vs) (r' : RepVs K W0 H0 ys ws) (st : ∀ W H, Grow W0 H0 W H → Fr H0 H F0 false → Rd H a (.lst vs)) (st' : ∀ W H, Grow W0 H0 W H → Fr H0 H F0 false → Rd H b (.lst ws)) :
    Wk K T (L2.Itz K a b) (zipF xs ys) W0 H0 F0 := fun W H g f => by
  have q : SqL K H a vs := .inl (st W H g f)
  have q' : SqL K H b ws := .inl (st' W H g f)
  refine ⟨fun i x e => ?_, fun i hi => ⟨vs, ws, q, q', by rw [r.len, r'.len]; exact zipF_len xs ys i hi⟩⟩
  obtain ⟨x1, x2, h1, h2, rfl⟩ := zipF_get _ _ _ _ e
  obtain ⟨y1, e1, ry1⟩ := r.get h1
  obtain ⟨y2, e2, ry2⟩ := r'.get h2
  refine ⟨⟨vs, ws, y1, y2, q, q', e1, e2⟩, fun z H' h => ?_⟩
  obtain ⟨p, u, w, rfl, np, e', hu, hw⟩ := h
  have := hu vs q
  rw [e1] at this
  cases this
  have := hw ws q'
  rw [e2] at this
  cases this
  exact pair_laid np e' (ry1.grow g _ _) (ry2.grow g _ _)
theorem wk_zipT {a b : Addr} {xs ys : List PV} {vs ws : List V} (r : RepVs K W0 H0 xs vs) (r' : RepVs K W0 H0 ys ws) (st : ∀ W H, Grow W0 H0 W H → SqT K H a vs) (st' : ∀ W H, Grow W0 H0 W H → SqT K H b ws) :
    Wk K T (RZ.ItzT K a b) (zipF xs ys) W0 H0 F0 := fun W H g f => by
  have q : SqT K H a vs := st W H g
  have q' : SqT K H b ws := st' W H g
  refine ⟨fun i x e => ?_, fun i hi => ⟨vs, ws, q, q', by rw [r.len, r'.len]; exact zipF_len xs ys i hi⟩⟩
  obtain ⟨x1, x2, h1, h2, rfl⟩ := zipF_get _ _ _ _ e
  obtain ⟨y1, e1, ry1⟩ := r.get h1
  obtain ⟨y2, e2, ry2⟩ := r'.get h2
  refine ⟨⟨vs, ws, y1, y2, q, q', e1, e2⟩, fun z H' h => ?_⟩
  obtain ⟨p, u, w, rfl, np, e', hu, hw⟩ := h
  have := hu vs q
  rw [e1] at this
  cases this
  have := hw ws q'
  rw [e2] at this
  cases this
  exact pair_laid np e' (ry1.grow g _ _) (ry2.grow g _ _)
theorem RepK.get {kvs : List (Ky × PV)} {ks : List (Key × V)} {i : Nat} {x : PV} (h : RepK K W H kvs ks) (e : (dom kvs)[i]? = some x) : ∃ k v, ks[i]? = some (k, v) ∧ RepV K W H x (L2.kV k) := by
  have r := h.keys
  obtain ⟨y, ey, ry⟩ := r.get e
  rw [List.getElem?_map] at ey
  obtain ⟨⟨k, v⟩, e1, rfl⟩ := Option.map_eq_some_iff.mp ey
  exact ⟨k, v, e1, ry⟩
theorem RepT.get : ∀ {kvs : List (Ky × PV)} {ks : List (List Key × V)} {i : Nat} {x : PV}, RepT K W H kvs ks → (dom kvs)[i]? = some x → ∃ p v, ks[i]? = some (pathK p, v) ∧ x = keyV (.tp p)
  | [], _, _, _, _, e => by simp [dom] at e
  | (k, y) :: r, ks, 0, x, h, e => by
    simp only [RepT] at h
    obtain ⟨k', v, t, rfl, rfl, _⟩ := h
    simp [dom] at e
    exact ⟨k', v, rfl, e.symm⟩
  | (k, y) :: r, ks, i + 1, x, h, e => by
    simp only [RepT] at h
    obtain ⟨k', v, t, rfl, rfl, _, h2⟩ := h
    obtain ⟨p, w, e1, e2⟩ := RepT.get (i := i) h2 (by simpa [dom] using e)
    exact ⟨p, w, by simpa using e1, e2⟩
theorem dom_len (kvs : List (Ky × PV)) : (dom kvs).length = kvs.length := by simp [dom]
theorem wk_keysK {d : Addr} {o : PySem.Obj} {kvs : List (Ky × PV)} {ks : List (Key × V)} (r : RepK K W0 H0 kvs ks) (hs : W0.sh d) (e0 : H0 d = some (.frz o (.dK ks))) : Wk K T (L2.Itk d o ks) (dom kvs) W0 H0 F0 := fun W H g f => by
  have q := g.fz _ _ _ hs e0
  refine ⟨fun i x e => ?_, fun i hi => ⟨q, by rw [dom_len] at hi; rw [r.len]; exact hi⟩⟩
  obtain ⟨k, v, ek, rk⟩ := r.get e
  refine ⟨⟨q, (List.getElem?_eq_some_iff.mp ek).1⟩, fun z H' h => ?_⟩
  obtain ⟨rfl, k', v', e', rfl⟩ := h
  rw [ek] at e'
  cases e'
  exact ⟨W, Grow.refl _ _, fun F => Fr.refl _ _ _, fun _ _ ok => ok, RepV.grow g _ _ rk⟩
theorem wk_keysT {d : Addr} {o : PySem.Obj} {kvs : List (Ky × PV)} {ks : List (List Key × V)} (r : RepT K W0 H0 kvs ks) (hs : W0.sh d) (e0 : H0 d = some (.frz o (.dT ks))) : Wk K T (L2.Itkt d o ks) (dom kvs) W0 H0 F0 := fun W H g f => by
  have q := g.fz _ _ _ hs e0
  refine ⟨fun i x e => ?_, fun i hi => ⟨q, by rw [dom_len] at hi; rw [r.len]; exact hi⟩⟩
  obtain ⟨p, v, ek, rfl⟩ := r.get e
  refine ⟨⟨q, (List.getElem?_eq_some_iff.mp ek).1⟩, fun z H' h => ?_⟩
  obtain ⟨rfl, k', v', b, e', rfl, hb⟩ := h
  rw [ek] at e'
  cases e'
  have g1 : Grow W H' ⟨W.m, fun a => W.sh a ∨ a = b⟩ H' := ⟨⟨[], (List.append_nil _).symm⟩, fun _ h => .inl h, fun _ _ _ _ h => h, fun _ _ _ h => h, fun _ _ _ _ h => h⟩
  exact ⟨⟨W.m, fun a => W.sh a ∨ a = b⟩, g1, fun F => Fr.refl _ _ _, fun _ _ ok => (ok.tupS hb).1, path_rep hb (.inr rfl)⟩
theorem wk_str {x : List Nat} (ha : ascii x) : Wk K T (L2.Its (txt x)) (x.map fun c => .str [c]) W0 H0 F0 := fun W H g f => by
  have sz : (txt x).cps.size = x.length := by simp [txt]
  refine ⟨fun i y e => ?_, fun i hi => by show (txt x).cps.size ≤ i; rw [sz]; simpa using hi⟩
  rw [List.getElem?_map] at e
  obtain ⟨c, ec, rfl⟩ := Option.map_eq_some_iff.mp e
  refine ⟨by show i < (txt x).cps.size; rw [sz]; exact (List.getElem?_eq_some_iff.mp ec).1, fun z H' h => ?_⟩
  obtain ⟨rfl, c', e', rfl⟩ := h
  have : c' = c := by
    have z : (txt x).cps[i]? = x[i]? := by simp [txt]
    rw [z, ec] at e'
    cases e'
    rfl
  subst this
  refine ⟨W, Grow.refl _ _, fun F => Fr.refl _ _ _, fun _ _ ok => ok, ?_⟩
  simp only [RepV]
  refine ⟨rfl, fun d hd => ?_⟩
  rw [List.mem_singleton.mp hd]
  exact ha c' (List.mem_of_getElem? ec)
end
/-- a dict that stands anywhere is locked -/
theorem lock_grow {K : PySem.W.Frag} {T : Tb} {W : Wd} {H : Hp} {S : Sto} {F : List Addr} {d : Addr} {u : HO} {o : PySem.Obj} (ok : Ok K T W H S F) (hs : W.sh d) (e : H d = some u) (nt : nT u) (nf : ∀ o' u', u ≠ .frz o' u') : Grow W H W (upd H d (.frz o u)) ∧ Ok K T W (upd H d (.frz o u)) S F ∧ ∀ F', (∀ a ∈ F', a ∈ F) → Fr H (upd H d (.frz o u)) F' false := by
  have gr : Grow W H W (upd H d (.frz o u)) := by
    refine ⟨⟨[], (List.append_nil _).symm⟩, fun _ h => h, fun a w _ _ r => ?_, fun a xs _ z => ?_, fun a o' u' _ z => ?_⟩
    · by_cases c : a = d
      · subst c
        rcases r with r | ⟨o', r⟩
        · rw [e] at r
          cases r
          exact .inr ⟨o, L2.upd_same⟩
        · rw [e] at r
          cases r
          exact absurd rfl (nf o' w)
      · exact r.imp (fun r => by rw [L2.upd_ne c]; exact r) (fun ⟨o', r⟩ => ⟨o', by rw [L2.upd_ne c]; exact r⟩)
    · have c : a ≠ d := by
        rintro rfl
        rw [e] at z
        cases z
        exact nt
      rw [L2.upd_ne c]; exact z
    · have c : a ≠ d := by
        rintro rfl
        rw [e] at z
        cases z
        exact nf o' u' rfl
      rw [L2.upd_ne c]; exact z
  have own : ∀ a, ¬ W.sh a → a ≠ d := fun a n z => n (z ▸ hs)
  refine ⟨gr, ok.grow gr rfl (fun a w _ n => by rw [L2.upd_ne (own a n)]) (fun _ _ _ h => h) (fun a h => ?_), fun F' sub a w z hh => ?_⟩
  · by_cases c : a = d
    · subst c; exact ⟨_, L2.upd_same⟩
    · obtain ⟨w, z⟩ := ok.shd a h
      exact ⟨w, by rw [L2.upd_ne c]; exact z⟩
  · rcases hh with hh | hh
    · rw [L2.upd_ne (own a (ok.ownd (sub a hh)).2)]; exact z
    · cases hh
theorem pe_lockA {X : L2.Cx} {e : PySem.Expr} {t : L2.TE} (h : L2.PE X e t) : L2.PE X e (fun σ H Q => t σ H fun x H1 => ∃ d u, x = .ref d ∧ Rd H1 d u ∧ L2.Mut (some u) ∧ (H1 d = some u → ∀ od, Q x (upd H1 d (.frz od u))) ∧ ∀ od, H1 d = some (.frz od u) → Q x H1) := by
  refine ⟨fun pins s σ H Q I q => L2.thn (h.run pins s σ H _ I q) fun v s1 ⟨x, H1, I1, r1, d, u, ex, hd, mu, q1, q2⟩ => ?_⟩
  rcases hd with hd | ⟨od, hd⟩
  · obtain ⟨od, I2⟩ := I1.lock hd mu
    exact ⟨x, _, I2, r1, q1 hd od⟩
  · exact ⟨x, _, I1, r1, q2 od hd⟩
section
variable {X : L2.Cx} {T : Tb} {G : Prg} {Φ : Phi} {g : Sg} {sc : PySem.Scope} {N : List Str} {exc : Nat → Value} {WX : WXn} {tg : PySem.Expr}
theorem i_seq {b : Bool} {e : CE} {pe : PySem.Expr} (h : PEe X T WX pe (simpE e) (evE G Φ e)) : PIe X T WX tg pe b (evI G Φ b (.seq e)) := by
  refine pi_imp (pi_or (L2.pi_list h) (pi_or (L2.pi_tup h) (pi_or (L2.pi_str h) (L2.pi_keys (pe_lockA h))))) fun σ H R q => ?_
  obtain ⟨W, S, r, A, F, a0, q⟩ := q
  simp only [evI] at q
  have w0 : ∀ {H'}, Fr H H' F (simpE e) → Fr H H' F false := fun f a o e z => f a o e (z.imp id no_t)
  cases c : evE G Φ e r S with
  | bad => rw [c] at q; exact q.elim
  | exc x S' =>
    refine .inl ⟨W, S, r, A, F, a0, ?_⟩
    rw [c] at q ⊢
    exact fun W' H' g' f' ok => q W' H' g' (w0 f') ok
  | ok v m S1 =>
    rw [c] at q
    simp only [Res.bindI_ok] at q
    cases hm : m.walk b with
    | false => rw [hm] at q; exact q.elim
    | true =>
      rw [hm] at q
      cases v with
      | lst xs =>
        refine .inl ⟨W, S, r, A, F, a0, ?_⟩
        rw [c]
        intro W1 H1 x g1 f1 hx ok1
        obtain ⟨a, rfl, hs, wk⟩ := wk_heldL (T := T) hx hm
        exact ⟨a, rfl, hs, q W1 H1 _ (ownA m (.ref a)) g1 (w0 f1) wk ok1⟩
      | tup xs =>
        refine .inr (.inl ⟨W, S, r, A, F, a0, ?_⟩)
        rw [c]
        intro W1 H1 x g1 f1 hx ok1
        obtain ⟨a, rfl, hs, wk⟩ := wk_heldT (T := T) hx hm
        exact ⟨a, rfl, hs, q W1 H1 _ (ownA m (.ref a)) g1 (w0 f1) wk ok1⟩
      | str x =>
        refine .inr (.inr (.inl ⟨W, S, r, A, F, a0, ?_⟩))
        rw [c]
        intro W1 H1 y g1 f1 hx ok1
        have hx : m = .sh ∧ RepV X.K W1 H1 (.str x) y := by
          cases m with
          | sh => exact ⟨rfl, hx⟩
          | own => obtain ⟨a, _, z⟩ := hx; exact z.elim
          | bor =>
            obtain ⟨a, _, ⟨z, _⟩ | ⟨_, _, z, _⟩⟩ := hx
            · exact z.elim
            · cases z
          | brf => obtain ⟨a, _, z⟩ := hx; exact z.elim
        obtain ⟨em, hr⟩ := hx
        subst em
        have hr : y = .str (txt x) ∧ ascii x := by
          unfold RepV at hr
          exact hr
        have hx := hr
        exact ⟨_, hx.1, q W1 H1 _ [] g1 (w0 f1) (wk_str hx.2) ok1⟩
      | dct kvs =>
        cases m with
        | sh =>
          refine .inr (.inr (.inr ⟨W, S, r, A, F, a0, ?_⟩))
          rw [c]
          intro W1 H1 x g1 f1 hx ok1
          have hx : RepV X.K W1 H1 (.dct kvs) x := hx
          have ok1 : Ok X.K T W1 H1 S1 F := ok1
          simp only [RepV] at hx
          obtain ⟨d, rfl, hs, ⟨ks, rd, rp⟩ | ⟨ks, rd, rp⟩⟩ := hx
          · refine ⟨d, .dK ks, rfl, rd, trivial, fun hd od => ?_, fun od hd => ?_⟩
            · obtain ⟨g2, ok2, f2⟩ := lock_grow (o := od) ok1 hs hd trivial (fun _ _ z => nomatch z)
              exact ⟨d, od, rfl, .inl ⟨ks, L2.upd_same, q W1 _ _ [] (g1.trans g2) ((w0 f1).trans (B := []) (f2 F fun a h => h) id id) (wk_keysK (RepK.grow g2 _ _ rp) hs L2.upd_same) ok2⟩⟩
            · exact ⟨d, od, rfl, .inl ⟨ks, hd, q W1 H1 _ [] g1 (w0 f1) (wk_keysK rp hs hd) ok1⟩⟩
          · refine ⟨d, .dT ks, rfl, rd, trivial, fun hd od => ?_, fun od hd => ?_⟩
            · obtain ⟨g2, ok2, f2⟩ := lock_grow (o := od) ok1 hs hd trivial (fun _ _ z => nomatch z)
              exact ⟨d, od, rfl, .inr ⟨ks, L2.upd_same, q W1 _ _ [] (g1.trans g2) ((w0 f1).trans (B := []) (f2 F fun a h => h) id id) (wk_keysT (RepT.grow g2 _ _ rp) hs L2.upd_same) ok2⟩⟩
            · exact ⟨d, od, rfl, .inr ⟨ks, hd, q W1 H1 _ [] g1 (w0 f1) (wk_keysT rp hs hd) ok1⟩⟩
        | own => exact q.elim
        | bor => exact q.elim
        | brf => exact q.elim
      | _ => exact q.elim
theorem i_enum (C : Ctx X T G Φ g sc N exc WX) {b : Bool} {e : CE} {pe : PySem.Expr} {p pos tpos : PySem.Pos} {elts : List PySem.Expr} {kk : Nat} (hb : ("enumerate" : Str) ∈ g.blt) (hg : glB sc "enumerate" = true) (hst : noStar pe = true) (h : PEe X T WX pe (simpE e) (evE G Φ e)) :
    PIe X T WX (.Tuple elts kk tpos) (.Call (.Name "enumerate" p) [pe] [] pos) b (evI G Φ b (.enum e)) := by
  refine pi_imp (pi_or (L2.pi_enum (gl_of C hg) (C.blt _ hb) (L2.pa_cons h L2.pa_nil (star_of hst)) (star_of hst)) (pi_enumT (gl_of C hg) (C.blt _ hb) (L2.pa_cons h L2.pa_nil (star_of hst)) (star_of hst))) fun σ H R q => ?_
  obtain ⟨W, S, r, A, F, a0, q⟩ := q
  simp only [evI] at q
  have w0 : ∀ {H'}, Fr H H' F (simpE e) → Fr H H' F false := fun f a o e z => f a o e (z.imp id no_t)
  cases c : evE G Φ e r S with
  | bad => rw [c] at q; exact q.elim
  | exc x S' =>
    refine .inl ⟨W, S, r, A, F, a0, ?_⟩
    rw [c] at q ⊢
    exact fun W' H' g' f' ok => q W' H' g' (w0 f') ok
  | ok v m S1 =>
    rw [c] at q
    simp only [Res.bindI_ok] at q
    cases hm : m.walk b with
    | false => rw [hm] at q; exact q.elim
    | true =>
      rw [hm] at q
      cases v with
      | lst xs =>
        refine .inl ⟨W, S, r, A, F, a0, ?_⟩
        rw [c]
        intro W1 H1 x g1 f1 hx ok1
        obtain ⟨a, vs, rfl, rp, st⟩ := held_lst hx hm
        exact ⟨a, vs, rfl, .inl (st W1 H1 (Grow.refl _ _) (Fr.refl _ _ _)), q W1 H1 _ (ownA m (.ref a)) g1 (w0 f1) (wk_enumL rp st) ok1⟩
      | tup xs =>
        refine .inr ⟨W, S, r, A, F, a0, ?_⟩
        rw [c]
        intro W1 H1 x g1 f1 hx ok1
        obtain ⟨a, vs, rfl, rp, st⟩ := held_tup hx hm
        exact ⟨a, vs, rfl, st W1 H1 (Grow.refl _ _), q W1 H1 _ (ownA m (.ref a)) g1 (w0 f1) (wk_enumT rp st) ok1⟩
      | _ => exact q.elim
theorem i_zip (C : Ctx X T G Φ g sc N exc WX) {b : Bool} {e f : CE} {pe pf : PySem.Expr} {p pos tpos : PySem.Pos} {elts : List PySem.Expr} {kk : Nat} (hb : ("zip" : Str) ∈ g.blt) (hg : glB sc "zip" = true) (hst : noStar pe = true) (hst2 : noStar pf = true) (h : PEe X T WX pe (simpE e) (evE G Φ e)) (h2 : PEe X T WX pf (simpE f) (evE G Φ f)) :
    PIe X T WX (.Tuple elts kk tpos) (.Call (.Name "zip" p) [pe, pf] [] pos) b (evI G Φ b (.zip e f)) := by
  refine pi_imp (RZ.pi_zipA (gl_of C hg) (C.blt _ hb) (L2.pa_cons h (L2.pa_cons h2 L2.pa_nil (star_of hst2)) (star_of hst)) (star_of hst) (by rw [star_of hst2]; rfl)) fun σ H R q => ?_
  obtain ⟨W, S, r, A, F, a0, q⟩ := q
  refine ⟨W, S, r, A, F, a0, ?_⟩
  simp only [evI] at q
  cases c : evE G Φ e r S with
  | bad => rw [c] at q; exact q.elim
  | exc x S' => rw [c] at q; exact fun W' H' g' f' ok => q W' H' g' (fun a o e z => f' a o e (z.imp id no_t)) ok
  | ok v m S1 =>
    rw [c] at q
    simp only [Res.bindI_ok] at q
    intro W1 H1 x g1 f1 hx ok1
    have f1' : Fr H H1 F false := fun a o e z => f1 a o e (z.imp id no_t)
    refine ⟨W1, S1, r, A, ownA m x ++ F, a0.next g1 f1 ok1, ?_⟩
    cases c2 : evE G Φ f r S1 with
    | bad => rw [c2] at q; exact q.elim
    | exc x S' => rw [c2] at q; exact fun W' H' g' f' ok => q W' H' (g1.trans g') (f1'.trans (s2 := false) (fun a o e z => f' a o e (z.imp id no_t)) id id) ok.drop
    | ok u n S2 =>
      rw [c2] at q
      simp only [Res.bindI_ok] at q
      intro W2 H2 y g2 f2 hy ok2
      have f2' : Fr H H2 F false := f1'.trans (s2 := false) (fun a o e z => f2 a o e (z.imp id no_t)) id id
      have f2'' : Fr H1 H2 (ownA m x ++ F) false := fun a o e z => f2 a o e (z.imp id no_t)
      cases hm : m.walk b && n.walk b && sameSq v u with
      | false => rw [hm] at q; exact q.elim
      | true =>
        rw [hm] at q
        simp only [Bool.and_eq_true] at hm
        obtain ⟨⟨hm1, hm2⟩, hs⟩ := hm
        have subs : ∀ {H3}, Fr H2 H3 ((ownA n y ++ ownA m x) ++ onF b F) false → Fr H2 H3 (ownA m x ++ onF b F) false := fun f a o e z => f a o e (z.imp (fun z => by simp at z ⊢; rcases z with z | z <;> simp [z]) id)
        have subs2 : ∀ {H3}, Fr H2 H3 ((ownA n y ++ ownA m x) ++ onF b F) false → Fr H2 H3 (ownA n y ++ onF b F) false := fun f a o e z => f a o e (z.imp (fun z => by simp at z ⊢; rcases z with z | z <;> simp [z]) id)
        have fr1 : Fr H1 H2 (ownA m x ++ onF b F) false := fun a o e z => f2'' a o e (z.imp (fun z => by
          simp only [List.mem_append] at z ⊢
          refine z.imp id fun z => ?_
          unfold onF at z
          split at z
          · exact z
          · cases z) id)
        have hy' : Held X.K W2 H2 (ownA m x ++ F) n u y := hy
        have ok2' : Ok X.K T W2 H2 S2 ((ownA n y ++ ownA m x) ++ F) := by rw [List.append_assoc]; exact ok2
        cases v with
        | lst xs =>
          cases u with
          | lst ys =>
            obtain ⟨a, vs, rfl, rp, st⟩ := held_lst hx hm1
            have hold : ∃ b0 ws, y = .ref b0 ∧ RepVs X.K W2 H2 ys ws ∧ ∀ W' H', Grow W2 H2 W' H' → Fr H2 H' ((ownA n y ++ ownA m (.ref a)) ++ onF b F) false → Rd H' b0 (.lst ws) := by
              cases n with
              | bor =>
                obtain ⟨b0, rfl, ⟨⟨ws, e, r⟩, hb0⟩ | ⟨_, _, e, _⟩⟩ := hy'
                · have hb : b = true := hm2
                  subst hb
                  refine ⟨b0, ws, rfl, r, fun W' H' g f => .inl (f b0 _ e (.inl ?_))⟩
                  simp only [ownA, onF, if_true, List.nil_append, List.mem_append] at hb0 ⊢
                  exact hb0
                · cases e
              | sh =>
                obtain ⟨b0, ws, e, r, st2⟩ := held_lst hy' hm2
                refine ⟨b0, ws, e, r, fun W' H' g f => ?_⟩
                have hy2 : RepV X.K W2 H2 (.lst ys) y := hy'
                simp only [RepV] at hy2
                obtain ⟨b1, us, e1, s, r1⟩ := hy2
                rw [e] at e1
                cases e1
                exact g.rd b0 (.lst ws) s.1 trivial (st2 W2 H2 (Grow.refl _ _) (Fr.refl _ _ _))
              | own =>
                obtain ⟨b0, rfl, ws, e, r⟩ := hy'
                exact ⟨b0, ws, rfl, r, fun W' H' g f => .inl (f b0 _ e (.inl (by simp [ownA])))⟩
              | brf => cases hm2
            obtain ⟨b0, ws, rfl, rp2, st2⟩ := hold
            refine ⟨a, b0, vs, ws, rfl, .inl ⟨.inl (st W2 H2 g2 fr1), .inl (st2 W2 H2 (Grow.refl _ _) (Fr.refl _ _ _)), ?_⟩⟩
            refine q W2 H2 _ (ownA n (.ref b0) ++ ownA m (.ref a)) (g1.trans g2) f2' ?_ ok2'
            exact wk_zipL (rp.grow g2 _ _) rp2 (fun W' H' g f => st W' H' (g2.trans g) (fr1.trans (B := []) (subs f) id id)) st2
          | _ => cases hs
        | tup xs =>
          cases u with
          | tup ys =>
            obtain ⟨a, vs, rfl, rp, st⟩ := held_tup hx hm1
            obtain ⟨b0, ws, rfl, rp2, st2⟩ := held_tup hy' hm2
            refine ⟨a, b0, vs, ws, rfl, .inr ⟨st W2 H2 g2, st2 W2 H2 (Grow.refl _ _), ?_⟩⟩
            exact q W2 H2 _ (ownA n (.ref b0) ++ ownA m (.ref a)) (g1.trans g2) f2' (wk_zipT (rp.grow g2 _ _) rp2 (fun W' H' g => st W' H' (g2.trans g)) st2) ok2'
          | _ => cases hs
        | _ => cases u <;> cases hs
end
end SR

set_option linter.unusedVariables false
set_option maxRecDepth 100000
/-! Comparisons in a row. -/
namespace SR
open PySem (Addr Str Value PyData Heap)
open L2 (V Hp HO Key upd Rd SqL SqT)
section
variable {X : L2.Cx} {T : Tb} {G : Prg} {Φ : Phi} {g : Sg} {sc : PySem.Scope} {N : List Str} {exc : Nat → Value} {WX : WXn}
theorem weakF {H H' : Hp} {F : List Addr} {s : Bool} (f : Fr H H' F s) : Fr H H' F false := fun a o e z => f a o e (z.imp id fun z => nomatch z)
theorem chn_core {o1 o2 : COp} {a b c : CE} (σ : L2.St) (H : Hp) (Q : L2.VK) (h : TIe X.K T WX false (evE G Φ (.chn o1 o2 a b c)) σ H Q) :
    L2.tChain (RC2 X.K T (fB (cmp2 o1))) (RC2 X.K T (fB (cmp2 o2))) (TIe X.K T WX (simpE a) (evE G Φ a)) (TIe X.K T WX (simpE b) (evE G Φ b)) (TIe X.K T WX (simpE c) (evE G Φ c)) σ H Q := by
  obtain ⟨W, S, r, A, F, a0, q⟩ := h
  refine ⟨W, S, r, A, F, a0, ?_⟩
  simp only [evE] at q
  cases c1 : evE G Φ a r S with
  | bad => rw [c1] at q; exact q.elim
  | exc x S' => rw [c1] at q; exact fun W' H' g' f' ok => q W' H' g' (weakF f') ok
  | ok x m S1 =>
    rw [c1] at q
    simp only [Res.bind_ok] at q
    intro W1 H1 u g1 f1 hx ok1
    have f1 := weakF f1
    refine ⟨W1, S1, r, A, ownA m u ++ F, a0.next g1 f1 ok1, ?_⟩
    cases c2 : evE G Φ b r S1 with
    | bad => rw [c2] at q; exact q.elim
    | exc y S' => rw [c2] at q; exact fun W' H' g' f' ok => q W' H' (g1.trans g') (f1.trans (weakF f') id id) ok.drop
    | ok y n S2 =>
      rw [c2] at q
      simp only [Res.bind_ok] at q
      intro W2 H2 w g2 f2 hy ok2
      have f2 := weakF f2
      split at q
      · rename_i hmn
        simp only [Bool.and_eq_true] at hmn
        obtain rfl : m = .sh := by cases m <;> simp_all [Md.isSh]
        obtain rfl : n = .sh := by cases n <;> simp_all [Md.isSh]
        have hx' : RepV X.K W2 H2 x u := RepV.grow g2 _ _ hx
        have ok2' : Ok X.K T W2 H2 S2 F := ok2
        have g12 := g1.trans g2
        have f12 : Fr H H2 F false := f1.trans f2 id id
        split at q
        · rename_i hc
          refine ⟨W2, S2, F, x, .sh, y, .sh, .bl true, .sh, hx', hy, ok2', by show (cmp2 o1 true (view S2 x) (view S2 y)).map _ = _; rw [hc]; rfl, rfl, fun W3 H3 z g3 f3 hz ok3 => ?_⟩
          have hz' : RepV X.K W3 H3 (.bl true) z := hz
          simp only [RepV] at hz'
          subst hz'
          refine ⟨true, rfl, ?_⟩
          rw [if_pos rfl]
          have f3' : Fr H H3 F false := f12.trans (B := []) (weakF f3) id id
          have g13 := g12.trans g3
          refine ⟨W3, S2, r, A, F, a0.same g13 f3' ok3, ?_⟩
          cases c3 : evE G Φ c r S2 with
          | bad => rw [c3] at q; exact q.elim
          | exc t S' => rw [c3] at q; exact fun W' H' g' f' ok => q W' H' (g13.trans g') (f3'.trans (B := []) (weakF f') id id) ok
          | ok t o S3 =>
            rw [c3] at q
            simp only [Res.bind_ok] at q
            intro W4 H4 v g4 f4 ht ok4
            have f4' : Fr H H4 F false := f3'.trans (B := []) (weakF f4) id id
            cases hd : cmp2 o2 true (view S3 y) (view S3 t) with
            | none => rw [hd] at q; exact q.elim
            | some k =>
              rw [hd] at q
              refine ⟨W4, S3, ownA o v ++ F, y, .sh, t, o, .bl k, .sh, RepV.grow (g3.trans g4) _ _ hy, ?_, ok4, by show (cmp2 o2 true (view S3 y) (view S3 t)).map _ = _; rw [hd]; rfl, rfl, fun W5 H5 z g5 f5 hz ok5 => q W5 H5 z ((g13.trans g4).trans g5) (f4'.trans (weakF f5) id id) hz ok5.mid⟩
              cases o with
              | bor =>
                obtain ⟨a, e, z⟩ := ht
                exact ⟨a, e, z.imp (fun z => ⟨z.1, by simp [ownA]; exact z.2⟩) id⟩
              | _ => exact ht
        · rename_i hc
          refine ⟨W2, S2, F, x, .sh, y, .sh, .bl false, .sh, hx', hy, ok2', by show (cmp2 o1 true (view S2 x) (view S2 y)).map _ = _; rw [hc]; rfl, rfl, fun W3 H3 z g3 f3 hz ok3 => ?_⟩
          have hz' : RepV X.K W3 H3 (.bl false) z := hz
          have e := hz'
          simp only [RepV] at e
          subst e
          refine ⟨false, rfl, ?_⟩
          rw [if_neg Bool.false_ne_true]
          exact q W3 H3 _ (g12.trans g3) (f12.trans (B := []) (weakF f3) id id) hz ok3
        · exact q.elim
      · exact q.elim
theorem e_chn (C : Ctx X T G Φ g sc N exc WX) {o1 o2 : COp} {a b c : CE} {ea eb ec : PySem.Expr} {pos : PySem.Pos} (hs : noSet ec = true) (ha : PEe X T WX ea (simpE a) (evE G Φ a)) (hb : PEe X T WX eb (simpE b) (evE G Φ b)) (hc : PEe X T WX ec (simpE c) (evE G Φ c)) :
    PEe X T WX (.Compare ea [opC o1, opC o2] [eb, ec] pos) false (evE G Φ (.chn o1 o2 a b c)) :=
  pe_imp (L2.pe_chain (o_cmp (T := T) (by have := C.units; omega) o1) (o_cmp (T := T) (by have := C.units; omega) o2) ha hb hc (marks_of hs)) fun σ H Q h => chn_core σ H Q h
theorem chn_bl {o1 o2 : COp} {a b c : CE} {r : Env} {S S' : Sto} {v : PV} {m : Md} (h : evE G Φ (.chn o1 o2 a b c) r S = .ok v m S') : ∃ k, v = .bl k ∧ m = .sh := by
  simp only [evE] at h
  cases c1 : evE G Φ a r S with
  | bad => rw [c1] at h; cases h
  | exc x S' => rw [c1] at h; cases h
  | ok x m S1 =>
    rw [c1] at h
    simp only [Res.bind_ok] at h
    cases c2 : evE G Φ b r S1 with
    | bad => rw [c2] at h; cases h
    | exc x S' => rw [c2] at h; cases h
    | ok y n S2 =>
      rw [c2] at h
      simp only [Res.bind_ok] at h
      split at h
      · split at h
        · cases c3 : evE G Φ c r S2 with
          | bad => rw [c3] at h; cases h
          | exc x S' => rw [c3] at h; cases h
          | ok t o S3 =>
            rw [c3] at h
            simp only [Res.bind_ok] at h
            cases hd : cmp2 o2 true (view S3 y) (view S3 t) with
            | none => rw [hd] at h; cases h
            | some k => rw [hd] at h; cases h; exact ⟨_, rfl, rfl⟩
        · cases h
          exact ⟨_, rfl, rfl⟩
        · cases h
      · cases h
theorem t_chn (C : Ctx X T G Φ g sc N exc WX) {o1 o2 : COp} {a b c : CE} {ea eb ec : PySem.Expr} {pos : PySem.Pos} (hs : noSet ec = true) (ha : PEe X T WX ea (simpE a) (evE G Φ a)) (hb : PEe X T WX eb (simpE b) (evE G Φ b)) (hc : PEe X T WX ec (simpE c) (evE G Φ c)) :
    PTe X T WX (.Compare ea [opC o1, opC o2] [eb, ec] pos) false (evT G Φ (.chn o1 o2 a b c)) := by
  refine pt_imp (L2.pt_chain (o_cmp (T := T) (by have := C.units; omega) o1) (o_cmp (T := T) (by have := C.units; omega) o2) ha hb hc (marks_of hs)) fun σ H Q h => ?_
  refine chn_core σ H _ ?_
  obtain ⟨W, S, r, A, F, a0, q⟩ := h
  refine ⟨W, S, r, A, F, a0, ?_⟩
  have ee : evT G Φ (.chn o1 o2 a b c) r S = toT (evE G Φ (.chn o1 o2 a b c) r S) := by simp only [evT, evE]
  rw [ee] at q
  cases e : evE G Φ (.chn o1 o2 a b c) r S with
  | bad => rw [e] at q; exact q.elim
  | exc x S' => rw [e] at q; exact q
  | ok v m S' =>
    rw [e] at q
    obtain ⟨k, rfl, rfl⟩ := chn_bl e
    simp only [toT_bl] at q
    intro W' H' x g' f' hx ok
    have hx : RepV X.K W' H' (.bl k) x := hx
    simp only [RepV] at hx
    subst hx
    exact ⟨k, rfl, q W' H' g' f' ok⟩
/-! ### a dict of the top -/
theorem ix_tab {d : Addr} {kvs : List (Int × PV)} (h : TabR X.K d kvs) : L2.IxR X (fun x y H Q => ∃ i v, x = .ref d ∧ y = .int i ∧ kvs.lookup i = some v ∧ ∀ z, (∀ W H, RepV X.K W H v z) → Q z H) := by
  intro value slice pins s σ H x y v u Q I rx ry hq hs
  obtain ⟨i, w, rfl, rfl, l, q⟩ := hq
  obtain rfl : v = Value.ref d := rx
  obtain ⟨t, rfl⟩ := ry
  obtain ⟨es, n, hl, hk, hf⟩ := h
  obtain ⟨u0, z, e, rz, rep⟩ := hf i w l
  have hm : s.heap.MapOf (PySem.intKind X.prog X.w) d (fun k => PySem.findBy PySem.Value.isInt es k) := ⟨_, es, n, I.kIn _ _ hl, ⟨rfl, rfl, rfl⟩, rfl, fun e he => by
    obtain ⟨k, t, e1, e2⟩ := hk e he
    exact ⟨k, by rw [e1]; exact beq_self_eq_true k, e2⟩, fun _ => rfl⟩
  exact PyProof.Rows.tail_any hm.typeIs PySem.slot_dict_getitem.lookup (PySem.wpAny_getItem_of (knd := PySem.intKind X.prog X.w) (k := i) (beq_self_eq_true i) hm e ⟨z, H, I.tok _, rz, q z rep⟩) hs
theorem e_gsub (C : Ctx X T G Φ g sc N exc WX) {t : Nat} {x : Str} {p pos : PySem.Pos} {k : CE} {pk : PySem.Expr} (hi : g.tab t = some x) (hv : glB sc x = true) (hs : noSlice pk = true) (hk : PEe X T WX pk (simpE k) (evE G Φ k)) :
    PEe X T WX (.Subscript (.Name x p) pk pos) false (evE G Φ (.gsub t k)) := by
  cases e : G.tabs[t]? with
  | none =>
    refine ⟨fun pins s' σ H Q I h => ?_⟩
    obtain ⟨W, S, r, A, F, a0, q⟩ := h
    simp only [evE, e] at q
    exact q.elim
  | some kvs =>
    obtain ⟨hd, d, hm, tb⟩ := C.tab t x kvs hi e
    refine pe_imp (L2.pe_ix (ix_tab tb) (L2.pe_glob (v := .ref d) (gl_of C hv) hm rfl hd) hk (plain_of hs)) fun σ H Q h => ?_
    obtain ⟨W, S, r, A, F, a0, q⟩ := h
    refine ⟨W, S, r, A, F, a0, ?_⟩
    simp only [evE, e] at q
    cases c : evE G Φ k r S with
    | bad => rw [c] at q; exact q.elim
    | exc y S' => rw [c] at q; exact fun W' H' g' f' ok => q W' H' g' (weakF f') ok
    | ok y n S1 =>
      rw [c] at q
      simp only [Res.bind_ok] at q
      intro W1 H1 u g1 f1 hy ok1
      cases y with
      | int j =>
        obtain ⟨rfl, rfl⟩ := int_held hy
        simp only at q
        cases l : kvs.lookup j with
        | none => rw [l] at q; exact q.elim
        | some v =>
          rw [l] at q
          exact ⟨j, v, rfl, rfl, l, fun z rep => q W1 H1 z g1 (weakF f1) (rep W1 H1) ok1⟩
      | _ => exact q.elim
/-! ### isinstance -/
def tyS : PV → String
  | .non => "NoneType"
  | .bl _ => "bool"
  | .int _ => "int"
  | .str _ => "str"
  | .lst _ => "list"
  | .tup _ => "tuple"
  | _ => ""
def tyM : Ty → String
  | .int => "int"
  | .bool => "bool"
  | .str => "str"
  | .tuple => "tuple"
  | .list => "list"
def tyN (t : Ty) : Str := PySem.Str.ofString (tyM t)
theorem ty_vw {K : PySem.W.Frag} {W : Wd} {H : Hp} {u : PV} {x : V} {t : Ty} {b : Bool} (h : Vw K W H u x) (e : isTyO t u = some b) : L2.TyX K H x (.type (tyS u)) := by
  cases u with
  | non => simp only [Vw, RepV] at h; subst h; exact .base .non
  | bl b => simp only [Vw, RepV] at h; subst h; exact .base (.bl b)
  | int b => simp only [Vw, RepV] at h; subst h; exact .base (.int b)
  | str y => simp only [Vw, RepV] at h; obtain ⟨rfl, _⟩ := h; exact .base (.str _)
  | lst xs =>
    obtain ⟨a, vs, rfl, r, _⟩ := h
    rcases r with r | ⟨o, r⟩
    · exact .base (.lst r)
    · exact .base (.frz r)
  | tup xs =>
    obtain ⟨a, vs, rfl, r, _⟩ := h
    rcases r with (r | ⟨o, r⟩) | ⟨o, its, n, r, c, _⟩
    · exact .base (.tup r)
    · exact .fTuple r
    · exact .kTuple r c
  | dct _ => cases e
  | obj _ => cases e
theorem kit_ty {K : PySem.W.Frag} {u : PV} {t : Ty} {b : Bool} (e : isTyO t u = some b) : PySem.W.kitOne K (.type (tyS u)) (.type (tyM t)) = some b := by
  cases u <;> cases t <;> simp only [isTyO, isTy, Option.some.injEq, reduceCtorEq] at e <;> subst e <;> exact L2.kit_ty (by simp only [tyS, tyM]; decide +kernel)
theorem e_isi (C : Ctx X T G Φ g sc N exc WX) {t : Ty} {a : CE} {pa : PySem.Expr} {p p2 pos : PySem.Pos} (hb : ("isinstance" : Str) ∈ g.blt) (hg : glB sc "isinstance" = true) (ht : tyN t ∈ g.blt) (hg2 : glB sc (tyN t) = true) (hst : noStar pa = true)
    (ha : PEe X T WX pa (simpE a) (evE G Φ a)) : PEe X T WX (.Call (.Name "isinstance" p) [pa, .Name (tyN t) p2] [] pos) (simpE (.isi t a)) (evE G Φ (.isi t a)) := by
  have hv : PySem.bootBuiltins (tyN t) = some (.type (tyM t)) := by cases t <;> decide +kernel
  have hn : tyN t ≠ "__name__" := by cases t <;> decide +kernel
  have hd : (tyN t == ("__debug__" : Str)) = false := by cases t <;> decide +kernel
  refine pe_imp (L2.pe_callB (id := "isinstance") L2.call_isi (gl_of C hg) (C.blt _ hb) (by decide +kernel) (L2.pa_cons ha (L2.pa_cons (L2.pe_bltn (v := .ty (tyM t)) (gl_of C hg2) (C.blt _ ht) hv rfl hn hd) L2.pa_nil rfl) (star_of hst)) (by decide +kernel) (by decide +kernel) (star_of hst) rfl) fun σ H Q h => ?_
  obtain ⟨W, S, r, A, F, a0, q⟩ := h
  refine ⟨W, S, r, A, F, a0, ?_⟩
  simp only [evE] at q
  cases c : evE G Φ a r S with
  | bad => rw [c] at q; exact q.elim
  | exc y S' => rw [c] at q; exact q
  | ok y n S1 =>
    rw [c] at q
    simp only [Res.bind_ok] at q
    intro W1 H1 u g1 f1 hy ok1
    cases e : isTyO t (view S1 y) with
    | none => rw [e] at q; exact q.elim
    | some b =>
      rw [e] at q
      exact ⟨u, .ty (tyM t), _, _, b, rfl, .ty _, ty_vw (hy.vw ⟨_, ok1⟩) e, kit_ty e, q W1 H1 (.bl b) g1 f1 (by show RepV _ _ _ _ _; simp only [RepV]) ok1.drop⟩
end
end SR

set_option linter.unusedVariables false
set_option maxRecDepth 100000
/-! Four things compared in a row. -/
namespace SR.Row
open PySem PySem.W PyProof.Rows L2
section
variable {X : Cx} {o1 o2 o3 : CmpOp} {p1 p2 p3 : R2} {ea eb ec ed : Expr} {wa wb wc wd : TE} {pos : Pos}
def tRow (p1 p2 p3 : R2) (wa wb wc wd : TE) : TE := fun σ H Q => wa σ H fun x Ha => wb σ Ha fun y Hb => p1 x y Hb fun u Hu => ∃ i, u = .bl i ∧
  (if i = true then wc σ Hu fun z Hc => p2 y z Hc fun v Hv => ∃ j, v = .bl j ∧ (if j = true then wd σ Hv fun w Hd => p3 z w Hd Q else Q (.bl false) Hv) else Q (.bl false) Hu)
theorem pe_row (g1 : OpR X (compareOp o1) p1) (g2 : OpR X (compareOp o2) p2) (g3 : OpR X (compareOp o3) p3) (ga : PE X ea wa) (gb : PE X eb wb) (gc : PE X ec wc) (gd : PE X ed wd)
    (mk : lastMarks [o1, o2, o3] [eb, ec, ed] = false) : PE X (.Compare ea [o1, o2, o3] [eb, ec, ed] pos) (tRow p1 p2 p3 wa wb wc wd) := by
  refine ⟨fun pins s σ H Q I h => ?_⟩
  refine Compare_chain (thn (ga.run pins s σ H _ I h) fun va t1 ⟨x, Ha, Ia, ra, qa⟩ => chain_link (thn (gb.run pins t1 σ Ha _ Ia qa) fun vb t2 ⟨y, Hb, Ib, rb, qb⟩ =>
    thn (g1 pins t2 σ Hb x y va vb _ Ib ra rb qb) fun vu t3 ⟨u, Hu, Iu, ru, i, ei, qu⟩ => ?_)) mk
  subst ei
  cases ru
  refine wpAny_truthy_bool ?_
  cases i with
  | false => exact ite_ff ⟨.bl false, Hu, Iu, rfl, qu⟩
  | true =>
    rw [if_pos rfl] at qu
    refine ite_tt (chain_link (thn (gc.run pins t3 σ Hu _ Iu qu) fun vc t4 ⟨z, Hc, Ic, rc, qc⟩ => thn (g2 pins t4 σ Hc y z vb vc _ Ic rb rc qc) fun vv t5 ⟨v, Hv, Iv, rv, j, ej, qv⟩ => ?_))
    subst ej
    cases rv
    refine wpAny_truthy_bool ?_
    cases j with
    | false => exact ite_ff ⟨.bl false, Hv, Iv, rfl, qv⟩
    | true =>
      rw [if_pos rfl] at qv
      exact ite_tt (chain_last (thn (gd.run pins t5 σ Hv _ Iv qv) fun vd t6 ⟨w, Hd, Id, rd, qd⟩ => g3 pins t6 σ Hd z w vc vd Q Id rc rd qd))
theorem pt_row (g1 : OpR X (compareOp o1) p1) (g2 : OpR X (compareOp o2) p2) (g3 : OpR X (compareOp o3) p3) (ga : PE X ea wa) (gb : PE X eb wb) (gc : PE X ec wc) (gd : PE X ed wd)
    (mk : lastMarks [o1, o2, o3] [eb, ec, ed] = false) : PT X (.Compare ea [o1, o2, o3] [eb, ec, ed] pos) (tTest (tRow p1 p2 p3 wa wb wc wd)) := by
  refine ⟨fun pins s σ H Q I h => ?_⟩
  refine isTrue_chain (thn (ga.run pins s σ H _ I h) fun va t1 ⟨x, Ha, Ia, ra, qa⟩ => test_link (thn (gb.run pins t1 σ Ha _ Ia qa) fun vb t2 ⟨y, Hb, Ib, rb, qb⟩ =>
    thn (g1 pins t2 σ Hb x y va vb _ Ib ra rb qb) fun vu t3 ⟨u, Hu, Iu, ru, i, ei, qu⟩ => ?_)) mk
  subst ei
  cases ru
  refine wpAny_truthy_bool ?_
  cases i with
  | false =>
    rw [if_neg (by decide)] at qu
    obtain ⟨k, ek, qk⟩ := qu
    cases ek
    exact ite_ff ⟨Hu, Iu, qk⟩
  | true =>
    rw [if_pos rfl] at qu
    refine ite_tt (test_link (thn (gc.run pins t3 σ Hu _ Iu qu) fun vc t4 ⟨z, Hc, Ic, rc, qc⟩ => thn (g2 pins t4 σ Hc y z vb vc _ Ic rb rc qc) fun vv t5 ⟨v, Hv, Iv, rv, j, ej, qv⟩ => ?_))
    subst ej
    cases rv
    refine wpAny_truthy_bool ?_
    cases j with
    | false =>
      rw [if_neg (by decide)] at qv
      obtain ⟨k, ek, qk⟩ := qv
      cases ek
      exact ite_ff ⟨Hv, Iv, qk⟩
    | true =>
      rw [if_pos rfl] at qv
      refine ite_tt (test_last (thn (gd.run pins t5 σ Hv _ Iv qv) fun vd t6 ⟨w, Hd, Id, rd, qd⟩ => thn (g3 pins t6 σ Hd z w vc vd _ Id rc rd qd) fun vw t7 ⟨r, Hr, Ir, rr, k, ek, qr⟩ => ?_))
      subst ek
      cases rr
      exact wpAny_truthy_bool ⟨Hr, Ir, qr⟩
end
end SR.Row
namespace SR
open PySem (Addr Str Value PyData Heap)
open L2 (V Hp HO Key upd Rd SqL SqT)
section
variable {X : L2.Cx} {T : Tb} {G : Prg} {Φ : Phi} {g : Sg} {sc : PySem.Scope} {N : List Str} {exc : Nat → Value} {WX : WXn}
theorem bl_of {K : PySem.W.Frag} {W : Wd} {H : Hp} {k : Bool} {z : V} (h : RepV K W H (.bl k) z) : z = .bl k := by simpa only [RepV] using h
theorem chn3_core {o1 o2 o3 : COp} {a b c d : CE} (σ : L2.St) (H : Hp) (Q : L2.VK) (h : TIe X.K T WX false (evE G Φ (.chn3 o1 o2 o3 a b c d)) σ H Q) :
    Row.tRow (RC2 X.K T (fB (cmp2 o1))) (RC2 X.K T (fB (cmp2 o2))) (RC2 X.K T (fB (cmp2 o3))) (TIe X.K T WX (simpE a) (evE G Φ a)) (TIe X.K T WX (simpE b) (evE G Φ b)) (TIe X.K T WX (simpE c) (evE G Φ c)) (TIe X.K T WX (simpE d) (evE G Φ d)) σ H Q := by
  obtain ⟨W, S, r, A, F, a0, q⟩ := h
  refine ⟨W, S, r, A, F, a0, ?_⟩
  simp only [evE] at q
  cases c1 : evE G Φ a r S with
  | bad => rw [c1] at q; exact q.elim
  | exc x S' => rw [c1] at q; exact fun W' H' g' f' ok => q W' H' g' (weakF f') ok
  | ok x m S1 =>
    rw [c1] at q
    simp only [Res.bind_ok] at q
    intro W1 H1 u g1 f1 hx ok1
    have f1 := weakF f1
    refine ⟨W1, S1, r, A, ownA m u ++ F, a0.next g1 f1 ok1, ?_⟩
    cases c2 : evE G Φ b r S1 with
    | bad => rw [c2] at q; exact q.elim
    | exc y S' => rw [c2] at q; exact fun W' H' g' f' ok => q W' H' (g1.trans g') (f1.trans (weakF f') id id) ok.drop
    | ok y n S2 =>
      rw [c2] at q
      simp only [Res.bind_ok] at q
      intro W2 H2 w g2 f2 hy ok2
      have f2 := weakF f2
      split at q
      · rename_i hmn
        simp only [Bool.and_eq_true] at hmn
        obtain rfl : m = .sh := by cases m <;> simp_all [Md.isSh]
        obtain rfl : n = .sh := by cases n <;> simp_all [Md.isSh]
        have hx' : RepV X.K W2 H2 x u := RepV.grow g2 _ _ hx
        have ok2' : Ok X.K T W2 H2 S2 F := ok2
        have g12 := g1.trans g2
        have f12 : Fr H H2 F false := f1.trans f2 id id
        split at q
        · rename_i hc
          refine ⟨W2, S2, F, x, .sh, y, .sh, .bl true, .sh, hx', hy, ok2', by show (cmp2 o1 true (view S2 x) (view S2 y)).map _ = _; rw [hc]; rfl, rfl, fun W3 H3 z g3 f3 hz ok3 => ?_⟩
          have hz' : RepV X.K W3 H3 (.bl true) z := hz
          obtain rfl := bl_of hz'
          refine ⟨true, rfl, ?_⟩
          rw [if_pos rfl]
          have f3' : Fr H H3 F false := f12.trans (B := []) (weakF f3) id id
          have g13 := g12.trans g3
          refine ⟨W3, S2, r, A, F, a0.same g13 f3' ok3, ?_⟩
          cases c3 : evE G Φ c r S2 with
          | bad => rw [c3] at q; exact q.elim
          | exc t S' => rw [c3] at q; exact fun W' H' g' f' ok => q W' H' (g13.trans g') (f3'.trans (B := []) (weakF f') id id) ok
          | ok t o S3 =>
            rw [c3] at q
            simp only [Res.bind_ok] at q
            intro W4 H4 v g4 f4 ht ok4
            have f4' : Fr H H4 F false := f3'.trans (B := []) (weakF f4) id id
            split at q
            · rename_i ho
              obtain rfl : o = .sh := by cases o <;> simp_all [Md.isSh]
              have g14 := g13.trans g4
              have ok4' : Ok X.K T W4 H4 S3 F := ok4
              split at q
              · rename_i hd
                refine ⟨W4, S3, F, y, .sh, t, .sh, .bl true, .sh, RepV.grow (g3.trans g4) _ _ hy, ht, ok4', by show (cmp2 o2 true (view S3 y) (view S3 t)).map _ = _; rw [hd]; rfl, rfl, fun W5 H5 z5 g5 f5 hz5 ok5 => ?_⟩
                have hz6 : RepV X.K W5 H5 (.bl true) z5 := hz5
                obtain rfl := bl_of hz6
                refine ⟨true, rfl, ?_⟩
                rw [if_pos rfl]
                have f5' : Fr H H5 F false := f4'.trans (B := []) (weakF f5) id id
                have g15 := g14.trans g5
                refine ⟨W5, S3, r, A, F, a0.same g15 f5' ok5, ?_⟩
                cases c4 : evE G Φ d r S3 with
                | bad => rw [c4] at q; exact q.elim
                | exc t S' => rw [c4] at q; exact fun W' H' g' f' ok => q W' H' (g15.trans g') (f5'.trans (B := []) (weakF f') id id) ok
                | ok k o4 S4 =>
                  rw [c4] at q
                  simp only [Res.bind_ok] at q
                  intro W6 H6 v6 g6 f6 hk ok6
                  have f6' : Fr H H6 F false := f5'.trans (B := []) (weakF f6) id id
                  cases hl : cmp2 o3 true (view S4 t) (view S4 k) with
                  | none => rw [hl] at q; exact q.elim
                  | some i =>
                    rw [hl] at q
                    refine ⟨W6, S4, ownA o4 v6 ++ F, t, .sh, k, o4, .bl i, .sh, RepV.grow (g5.trans g6) _ _ ht, ?_, ok6, by show (cmp2 o3 true (view S4 t) (view S4 k)).map _ = _; rw [hl]; rfl, rfl, fun W7 H7 z7 g7 f7 hz7 ok7 => q W7 H7 z7 ((g15.trans g6).trans g7) (f6'.trans (weakF f7) id id) hz7 ok7.mid⟩
                    cases o4 with
                    | bor =>
                      obtain ⟨a, e, z⟩ := hk
                      exact ⟨a, e, z.imp (fun z => ⟨z.1, by simp [ownA]; exact z.2⟩) id⟩
                    | _ => exact hk
              · rename_i hd
                refine ⟨W4, S3, F, y, .sh, t, .sh, .bl false, .sh, RepV.grow (g3.trans g4) _ _ hy, ht, ok4', by show (cmp2 o2 true (view S3 y) (view S3 t)).map _ = _; rw [hd]; rfl, rfl, fun W5 H5 z5 g5 f5 hz5 ok5 => ?_⟩
                have hz6 : RepV X.K W5 H5 (.bl false) z5 := hz5
                obtain rfl := bl_of hz6
                refine ⟨false, rfl, ?_⟩
                rw [if_neg Bool.false_ne_true]
                exact q W5 H5 _ (g14.trans g5) (f4'.trans (B := []) (weakF f5) id id) hz5 ok5
              · exact q.elim
            · exact q.elim
        · rename_i hc
          refine ⟨W2, S2, F, x, .sh, y, .sh, .bl false, .sh, hx', hy, ok2', by show (cmp2 o1 true (view S2 x) (view S2 y)).map _ = _; rw [hc]; rfl, rfl, fun W3 H3 z g3 f3 hz ok3 => ?_⟩
          have hz' : RepV X.K W3 H3 (.bl false) z := hz
          obtain rfl := bl_of hz'
          refine ⟨false, rfl, ?_⟩
          rw [if_neg Bool.false_ne_true]
          exact q W3 H3 _ (g12.trans g3) (f12.trans (B := []) (weakF f3) id id) hz ok3
        · exact q.elim
      · exact q.elim
theorem marks3 {p1 p2 p3 : PySem.CmpOp} {eb ec ed : PySem.Expr} (h : noSet ed = true) : PySem.lastMarks [p1, p2, p3] [eb, ec, ed] = false := marks_of (op := p3) h
theorem e_chn3 (C : Ctx X T G Φ g sc N exc WX) {o1 o2 o3 : COp} {a b c d : CE} {ea eb ec ed : PySem.Expr} {pos : PySem.Pos} (hs : noSet ed = true) (ha : PEe X T WX ea (simpE a) (evE G Φ a)) (hb : PEe X T WX eb (simpE b) (evE G Φ b)) (hc : PEe X T WX ec (simpE c) (evE G Φ c)) (hd : PEe X T WX ed (simpE d) (evE G Φ d)) :
    PEe X T WX (.Compare ea [opC o1, opC o2, opC o3] [eb, ec, ed] pos) false (evE G Φ (.chn3 o1 o2 o3 a b c d)) :=
  pe_imp (Row.pe_row (o_cmp (T := T) (by have := C.units; omega) o1) (o_cmp (T := T) (by have := C.units; omega) o2) (o_cmp (T := T) (by have := C.units; omega) o3) ha hb hc hd (marks3 hs)) fun σ H Q h => chn3_core σ H Q h
theorem chn3_bl {o1 o2 o3 : COp} {a b c d : CE} {r : Env} {S S' : Sto} {v : PV} {m : Md} (h : evE G Φ (.chn3 o1 o2 o3 a b c d) r S = .ok v m S') : ∃ k, v = .bl k ∧ m = .sh := by
  simp only [evE] at h
  cases c1 : evE G Φ a r S with
  | bad => rw [c1] at h; cases h
  | exc x S' => rw [c1] at h; cases h
  | ok x m S1 =>
    rw [c1] at h
    simp only [Res.bind_ok] at h
    cases c2 : evE G Φ b r S1 with
    | bad => rw [c2] at h; cases h
    | exc x S' => rw [c2] at h; cases h
    | ok y n S2 =>
      rw [c2] at h
      simp only [Res.bind_ok] at h
      split at h
      · split at h
        · cases c3 : evE G Φ c r S2 with
          | bad => rw [c3] at h; cases h
          | exc x S' => rw [c3] at h; cases h
          | ok t o S3 =>
            rw [c3] at h
            simp only [Res.bind_ok] at h
            split at h
            · split at h
              · cases c4 : evE G Φ d r S3 with
                | bad => rw [c4] at h; cases h
                | exc x S' => rw [c4] at h; cases h
                | ok k o4 S4 =>
                  rw [c4] at h
                  simp only [Res.bind_ok] at h
                  cases hl : cmp2 o3 true (view S4 t) (view S4 k) with
                  | none => rw [hl] at h; cases h
                  | some i => rw [hl] at h; cases h; exact ⟨_, rfl, rfl⟩
              · cases h
                exact ⟨_, rfl, rfl⟩
              · cases h
            · cases h
        · cases h
          exact ⟨_, rfl, rfl⟩
        · cases h
      · cases h
theorem t_chn3 (C : Ctx X T G Φ g sc N exc WX) {o1 o2 o3 : COp} {a b c d : CE} {ea eb ec ed : PySem.Expr} {pos : PySem.Pos} (hs : noSet ed = true) (ha : PEe X T WX ea (simpE a) (evE G Φ a)) (hb : PEe X T WX eb (simpE b) (evE G Φ b)) (hc : PEe X T WX ec (simpE c) (evE G Φ c)) (hd : PEe X T WX ed (simpE d) (evE G Φ d)) :
    PTe X T WX (.Compare ea [opC o1, opC o2, opC o3] [eb, ec, ed] pos) false (evT G Φ (.chn3 o1 o2 o3 a b c d)) := by
  refine pt_imp (Row.pt_row (o_cmp (T := T) (by have := C.units; omega) o1) (o_cmp (T := T) (by have := C.units; omega) o2) (o_cmp (T := T) (by have := C.units; omega) o3) ha hb hc hd (marks3 hs)) fun σ H Q h => ?_
  refine chn3_core σ H _ ?_
  obtain ⟨W, S, r, A, F, a0, q⟩ := h
  refine ⟨W, S, r, A, F, a0, ?_⟩
  have ee : evT G Φ (.chn3 o1 o2 o3 a b c d) r S = toT (evE G Φ (.chn3 o1 o2 o3 a b c d) r S) := by simp only [evT, evE]
  rw [ee] at q
  cases e : evE G Φ (.chn3 o1 o2 o3 a b c d) r S with
  | bad => rw [e] at q; exact q.elim
  | exc x S' => rw [e] at q; exact q
  | ok v m S' =>
    rw [e] at q
    obtain ⟨k, rfl, rfl⟩ := chn3_bl e
    simp only [toT_bl] at q
    intro W' H' x g' f' hx ok
    have hx : RepV X.K W' H' (.bl k) x := hx
    obtain rfl := bl_of hx
    exact ⟨k, rfl, q W' H' g' f' ok⟩
end
end SR

set_option linter.unusedVariables false
set_option maxRecDepth 100000
/-! Instances: fields, methods, new ones. -/
namespace SR
open PySem (Addr Str Value PyData Heap)
open L2 (V Hp HO Key upd Rd SqL SqT)
section
variable {K : PySem.W.Frag} {T : Tb} {W W' : Wd} {H H' : Hp}
theorem fns_inj {i j : Nat} {x : Str} (h : T.fns[i]? = some x) (h' : T.fns[j]? = some x) : i = j :=
  (List.getElem?_inj (List.getElem?_eq_some_iff.mp h).1 T.nd).mp (h.trans h'.symm)
theorem beq_str_ne {x y : Str} (h : ¬ x = y) : (x == y) = false := beq_eq_false_iff_ne.mpr h
/-- one field, and how it is exchanged -/
theorem FsR.at : ∀ {fs : List (Nat × Sl)} {gs : List (Str × V)} {A : List Addr} {f : Nat} {s : Sl} {x : Str}, FsR K T W H fs gs A → T.fns[f]? = some x → lkF f fs = some s →
    ∃ v A1 A0 A2, gs.lookup x = some v ∧ A = A1 ++ (A0 ++ A2) ∧ SlR K W H s (some v) A0 ∧
      ∀ W' H' s' v' A0', Grow W H W' H' → (∀ b ∈ A1 ++ A2, H' b = H b) → SlR K W' H' s' (some v') A0' → FsR K T W' H' (ptF f s' fs) (L2.putF x v' gs) (A1 ++ (A0' ++ A2))
  | [], _, _, _, _, _, _, _, e => by simp [lkF] at e
  | (g, w) :: r, gs, A, f, s, x, h, hx, e => by
    obtain ⟨y, v, t, B, C, rfl, rfl, h0, h1, h2⟩ := h
    by_cases hfg : f = g
    · subst hfg
      rw [hx] at h0
      cases h0
      simp only [lkF, if_pos rfl] at e
      cases e
      refine ⟨v, [], B, C, ?_, rfl, h1, fun W' H' s' v' A0' gr k hs => ?_⟩
      · rw [List.lookup_cons, beq_self_eq_true]
      · simp only [ptF, L2.putF]
        exact ⟨x, v', t, A0', C, by rw [if_pos trivial], rfl, hx, hs, h2.grow gr fun b hb => k b (by simp [hb])⟩
    · have hxy : ¬ x = y := fun z => hfg (by subst z; exact fns_inj hx h0)
      have hyx : ¬ y = x := fun z => hxy z.symm
      simp only [lkF, if_neg hfg] at e
      obtain ⟨u, A1, A0, A2, e1, rfl, h3, h4⟩ := FsR.at h2 hx e
      refine ⟨u, B ++ A1, A0, A2, ?_, by simp, h3, fun W' H' s' v' A0' gr k hs => ?_⟩
      · rw [List.lookup_cons, beq_str_ne hxy]
        exact e1
      · simp only [ptF, L2.putF, if_neg hfg, if_neg hyx]
        exact ⟨y, v, _, B, A1 ++ (A0' ++ A2), rfl, by simp, h0, h1.grow gr fun b hb => k b (by simp [hb]), h4 W' H' s' v' A0' gr (fun b hb => k b (by simp at hb ⊢; rcases hb with z | z <;> simp [z])) hs⟩
/-- a new field -/
theorem FsR.new : ∀ {fs : List (Nat × Sl)} {gs : List (Str × V)} {A : List Addr} {f : Nat} {x : Str}, FsR K T W H fs gs A → T.fns[f]? = some x → lkF f fs = none →
    ∀ W' H' s' v' A0', Grow W H W' H' → (∀ b ∈ A, H' b = H b) → SlR K W' H' s' (some v') A0' → FsR K T W' H' (ptF f s' fs) (L2.putF x v' gs) (A ++ A0')
  | [], _, _, _, _, h, hx, _, W', H', s', v', A0', gr, k, hs => by
    obtain ⟨rfl, rfl⟩ := h
    exact ⟨_, v', [], A0', [], rfl, by simp, hx, hs, rfl, rfl⟩
  | (g, w) :: r, gs, A, f, x, h, hx, e, W', H', s', v', A0', gr, k, hs => by
    obtain ⟨y, v, t, B, C, rfl, rfl, h0, h1, h2⟩ := h
    by_cases hfg : f = g
    · simp [lkF, hfg] at e
    · have hyx : ¬ y = x := fun z => hfg (by subst z; exact fns_inj hx h0)
      simp only [lkF, if_neg hfg] at e
      simp only [ptF, L2.putF, if_neg hfg, if_neg hyx]
      exact ⟨y, v, _, B, C ++ A0', rfl, by simp, h0, h1.grow gr fun b hb => k b (by simp [hb]), FsR.new h2 hx e W' H' s' v' A0' gr (fun b hb => k b (by simp [hb])) hs⟩
theorem FsR.len : ∀ {fs : List (Nat × Sl)} {gs : List (Str × V)} {A : List Addr}, FsR K T W H fs gs A → gs.length = fs.length
  | [], _, _, h => by obtain ⟨rfl, _⟩ := h; rfl
  | (g, w) :: r, gs, A, h => by
    obtain ⟨y, v, t, B, C, rfl, rfl, h0, h1, h2⟩ := h
    simp [FsR.len h2]
theorem FsR.none : ∀ {fs : List (Nat × Sl)} {gs : List (Str × V)} {A : List Addr} {m : Str}, FsR K T W H fs gs A → m ∉ T.fns → gs.lookup m = none
  | [], _, _, _, h, _ => by obtain ⟨rfl, _⟩ := h; rfl
  | (g, w) :: r, gs, A, m, h, hm => by
    obtain ⟨y, v, t, B, C, rfl, rfl, h0, h1, h2⟩ := h
    rw [List.lookup_cons, beq_str_ne (fun z => hm (by subst z; exact List.mem_of_getElem? h0))]
    exact FsR.none h2 hm
theorem putF_same {x : Str} {v : V} : ∀ {gs : List (Str × V)}, gs.lookup x = some v → L2.putF x v gs = gs
  | [], h => by simp at h
  | (y, u) :: t, h => by
    unfold L2.putF
    by_cases z : y = x
    · subst z
      rw [List.lookup_cons, beq_self_eq_true] at h
      cases h
      rw [if_pos rfl]
    · rw [if_neg z]
      rw [List.lookup_cons, beq_str_ne (fun q => z q.symm)] at h
      rw [putF_same h]
theorem obj_held {F : List Addr} {m : Md} {l : Nat} {y : V} (h : Held K W H F m (.obj l) y) : m = .sh ∧ ∃ a, W.m[l]? = some a ∧ y = .ref a := by
  cases m with
  | sh =>
    refine ⟨rfl, ?_⟩
    have h : RepV K W H (.obj l) y := h
    simpa only [RepV] using h
  | own => obtain ⟨a, _, q⟩ := h; exact q.elim
  | bor => obtain ⟨a, _, ⟨q, _⟩ | ⟨xs, vs, z, _⟩⟩ := h <;> first | exact q.elim | cases z
  | brf => obtain ⟨a, _, q⟩ := h; exact q.elim
theorem getF_some {S : Sto} {u : PV} {f : Nat} {s : Sl} (h : getF S u f = some s) : ∃ l c fs, u = .obj l ∧ S[l]? = some (.ins c fs) ∧ lkF f fs = some s := by
  unfold getF at h
  split at h
  · split at h
    · exact ⟨_, _, _, rfl, by assumption, h⟩
    · cases h
  · cases h
theorem putS_some {S S' : Sto} {u : PV} {f : Nat} {s : Sl} (h : putS S u f s = some S') : ∃ l c fs, u = .obj l ∧ S[l]? = some (.ins c fs) ∧ fs.length < 100 ∧ S' = S.set l (.ins c (ptF f s fs)) := by
  unfold putS at h
  split at h
  · split at h
    · split at h
      · cases h
        exact ⟨_, _, _, rfl, by assumption, by assumption, rfl⟩
      · cases h
    · cases h
  · cases h
/-- an instance of the store, and how it is exchanged -/
theorem Ok.obj {S : Sto} {F : List Addr} {l c : Nat} {fs : List (Nat × Sl)} (ok : Ok K T W H S F) (e : S[l]? = some (.ins c fs)) : ∃ a dx gs B P R, W.m[l]? = some a ∧ T.ok c ∧ H a = some (.ins (T.cls c) dx gs) ∧ H dx = some (.own a) ∧ FsR K T W H fs gs B ∧
    (F ++ (P ++ ((a :: dx :: B) ++ R))).Nodup ∧ (∀ b ∈ F ++ (P ++ ((a :: dx :: B) ++ R)), (∃ o, H b = some o ∧ nT o) ∧ ¬ W.sh b) ∧
    ∀ W' H' o' C', Grow W H W' H' → (∀ b ∈ P ++ R, H' b = H b) → PoR K T W' H' o' a C' → StoR K T W' H' (S.set l o') W.m (P ++ (C' ++ R)) := by
  obtain ⟨A, st, nd, hl⟩ := ok.st
  obtain ⟨a, P, C, R, e1, rfl, p, k⟩ := st.at e
  obtain ⟨h0, dx, gs, B, rfl, h1, h2, h3⟩ := p
  exact ⟨a, dx, gs, B, P, R, e1, h0, h1, h2, h3, nd, hl, k⟩
/-- the state anew: some of what was owned -/
theorem Ok.build {S' : Sto} {F' A' L D : List Addr} (hp : L.Perm ((F' ++ A') ++ D)) (nd : L.Nodup) (hl : ∀ b ∈ L, (∃ o, H' b = some o ∧ nT o) ∧ ¬ W'.sh b) (st : StoR K T W' H' S' W'.m A') (shd : ∀ a, W'.sh a → ∃ o, H' a = some o) : Ok K T W' H' S' F' :=
  ⟨⟨A', st, ((hp.nodup_iff.mp nd).sublist (List.sublist_append_left _ _)), fun a ha => hl a (hp.mem_iff.mpr (List.mem_append_left _ ha))⟩, shd⟩
/-- a written address that none shares -/
theorem Grow.wr {D : Addr} {o : HO} (nsh : ¬ W.sh D) : Grow W H W (upd H D o) := by
  refine ⟨⟨[], (List.append_nil _).symm⟩, fun _ h => h, fun a w hs _ r => ?_, fun a xs hs e => ?_, fun a o u hs e => ?_⟩
  · have ne : a ≠ D := by rintro rfl; exact nsh hs
    exact r.imp (fun r => by rw [L2.upd_ne ne]; exact r) (fun ⟨x, r⟩ => ⟨x, by rw [L2.upd_ne ne]; exact r⟩)
  · rw [L2.upd_ne (by rintro rfl; exact nsh hs)]; exact e
  · rw [L2.upd_ne (by rintro rfl; exact nsh hs)]; exact e
theorem shd_wr {D : Addr} {o : HO} (shd : ∀ a, W.sh a → ∃ o, H a = some o) : ∀ a, W.sh a → ∃ o', upd H D o a = some o' := fun a hs => by
  by_cases z : a = D
  · subst z; exact ⟨_, L2.upd_same⟩
  · obtain ⟨w, e⟩ := shd a hs
    exact ⟨w, by rw [L2.upd_ne z]; exact e⟩
theorem lk_wr {D b : Addr} {o : HO} (nt : nT o) (h : (∃ o, H b = some o ∧ nT o) ∧ ¬ W.sh b) : (∃ o', upd H D o b = some o' ∧ nT o') ∧ ¬ W.sh b := by
  obtain ⟨⟨w, e, q⟩, n⟩ := h
  refine ⟨?_, n⟩
  by_cases z : b = D
  · subst z; exact ⟨_, L2.upd_same, nt⟩
  · exact ⟨w, by rw [L2.upd_ne z]; exact e, q⟩
end
/-- no call of super -/
def notSuper : PySem.Expr → Bool
  | .Call (.Name _ _) [] [] _ => false
  | _ => true
theorem base_of {e : PySem.Expr} {f : Str} {env : PySem.Env} (h : notSuper e = true) : PySem.attributeBase e f env (PySem.eval e env) = PySem.eval e env := by
  unfold PySem.attributeBase
  split
  · simp [notSuper] at h
  · rfl
section
variable {X : L2.Cx} {T : Tb} {G : Prg} {Φ : Phi} {g : Sg} {sc : PySem.Scope} {N : List Str} {exc : Nat → Value} {WX : WXn}
theorem e_fld (C : Ctx X T G Φ g sc N exc WX) {f : Nat} {x : Str} {a : CE} {ea : PySem.Expr} {pos : PySem.Pos} (hf' : g.flds[f]? = some x) (hb : notSuper ea = true) (ha : PEe X T WX ea (simpE a) (evE G Φ a)) : PEe X T WX (.Attribute ea x pos) (simpE (.fld f a)) (evE G Φ (.fld f a)) := by
  have hf := C.fl f x hf'
  refine pe_imp (L2.pe_fld ha (base_of hb)) fun σ H Q h => ?_
  obtain ⟨W, S, r, A, F, a0, q⟩ := h
  refine ⟨W, S, r, A, F, a0, ?_⟩
  simp only [evE] at q
  cases c : evE G Φ a r S with
  | bad => rw [c] at q; exact q.elim
  | exc e S' => rw [c] at q; exact q
  | ok u m S1 =>
    rw [c] at q
    simp only [Res.bind_ok] at q
    intro W1 H1 y g1 f1 hy ok1
    have go : ∀ s, getF S1 u f = some s → ∃ b C' dx gs v B, y = .ref b ∧ H1 b = some (.ins C' dx gs) ∧ L2.Cls X.K C' ∧ L2.NoAttr X.K C' x ∧ gs.lookup x = some v ∧ SlR X.K W1 H1 s (some v) B ∧ m = .sh := by
      intro s hs
      obtain ⟨l, cc, fs, rfl, e1, e2⟩ := getF_some hs
      obtain ⟨rfl, b, e3, rfl⟩ := obj_held hy
      obtain ⟨b', dx, gs, B, P, R, e4, h0, h1, h2, h3, nd, hl, k⟩ := ok1.obj e1
      rw [e3] at e4
      cases e4
      obtain ⟨v, A1, A0, A2, e5, _, e6, _⟩ := h3.at hf e2
      exact ⟨b, _, dx, gs, v, A0, rfl, h1, (C.cl cc h0).1, (C.cl cc h0).2 x (List.mem_of_getElem? hf), e5, e6, rfl⟩
    cases hs : getF S1 u f with
    | none => rw [hs] at q; exact q.elim
    | some s =>
      obtain ⟨b, C', dx, gs, v, B, rfl, e1, e2, e3, e4, e5, rfl⟩ := go s hs
      rw [hs] at q
      refine ⟨b, C', dx, gs, v, rfl, e1, e2, e3, e4, ?_⟩
      cases s with
      | un => exact q.elim
      | sh w =>
        obtain ⟨_, z, ez, r⟩ := e5
        cases ez
        exact q W1 H1 v g1 f1 r ok1
      | own w =>
        obtain ⟨b2, _, eb, r⟩ := e5
        cases eb
        exact q W1 H1 _ g1 f1 ⟨b2, rfl, r⟩ ok1
theorem e_mvf (C : Ctx X T G Φ g sc N exc WX) {f : Nat} {x : Str} {a : CE} {ea : PySem.Expr} {pos : PySem.Pos} (hf' : g.flds[f]? = some x) (hb : notSuper ea = true) (ha : PEe X T WX ea (simpE a) (evE G Φ a)) : PEe X T WX (.Attribute ea x pos) false (evE G Φ (.mvf f a)) := by
  have hf := C.fl f x hf'
  refine pe_imp (L2.pe_fld ha (base_of hb)) fun σ H Q h => ?_
  obtain ⟨W, S, r, A, F, a0, q⟩ := h
  refine ⟨W, S, r, A, F, a0, ?_⟩
  simp only [evE] at q
  cases c : evE G Φ a r S with
  | bad => rw [c] at q; exact q.elim
  | exc e S' => rw [c] at q; exact fun W' H' g' f' ok => q W' H' g' (fun a o e z => f' a o e (z.imp id no_t)) ok
  | ok u m S1 =>
    rw [c] at q
    simp only [Res.bind_ok] at q
    intro W1 H1 y g1 f1 hy ok1
    have f1 : Fr H H1 F false := fun a o e z => f1 a o e (z.imp id no_t)
    cases hs : getF S1 u f with
    | none => rw [hs] at q; exact q.elim
    | some s =>
      rw [hs] at q
      obtain ⟨l, cc, fs, rfl, e1, e2⟩ := getF_some hs
      obtain ⟨rfl, b, e3, rfl⟩ := obj_held hy
      have ok1 : Ok X.K T W1 H1 S1 F := ok1
      obtain ⟨b', dx, gs, B, P, R, e4, h0, h1, h2, h3, nd, hl, k⟩ := ok1.obj e1
      rw [e3] at e4
      cases e4
      obtain ⟨v, A1, A0, A2, e5, eB, e6, kk⟩ := h3.at hf e2
      refine ⟨b, _, dx, gs, v, rfl, h1, (C.cl cc h0).1, (C.cl cc h0).2 x (List.mem_of_getElem? hf), e5, ?_⟩
      cases s with
      | un => exact q.elim
      | sh w =>
        obtain ⟨_, z, ez, r⟩ := e6
        cases ez
        exact q W1 H1 v g1 f1 r ok1
      | own w =>
        obtain ⟨b2, rfl, eb, r⟩ := e6
        cases eb
        simp only at q
        split at q
        · rename_i S2 hp
          obtain ⟨l', c', fs', e7, e8, e9, rfl⟩ := putS_some hp
          cases e7
          rw [e1] at e8
          cases e8
          refine q W1 H1 _ g1 f1 ⟨b2, rfl, r⟩ ?_
          have fr := kk W1 H1 .un (.ref b2) [] (Grow.refl _ _) (fun _ _ => rfl) rfl
          rw [putF_same e5] at fr
          refine Ok.build (D := []) ?_ nd hl (k W1 H1 (.ins cc (ptF f .un fs)) (b :: dx :: (A1 ++ ([] ++ A2))) (Grow.refl _ _) (fun _ _ => rfl) ⟨h0, dx, gs, _, rfl, h1, h2, fr⟩) ok1.shd
          rw [eB]
          exact List.perm_iff_count.mpr fun z => by simp only [ownA, List.count_append, List.count_cons, List.count_nil]; omega
        · exact q.elim
theorem e_shf (C : Ctx X T G Φ g sc N exc WX) {f : Nat} {x : Str} {a : CE} {ea : PySem.Expr} {pos : PySem.Pos} (hf' : g.flds[f]? = some x) (hb : notSuper ea = true) (ha : PEe X T WX ea (simpE a) (evE G Φ a)) : PEe X T WX (.Attribute ea x pos) false (evE G Φ (.shf f a)) := by
  have hf := C.fl f x hf'
  refine pe_imp (L2.pe_fld ha (base_of hb)) fun σ H Q h => ?_
  obtain ⟨W, S, r, A, F, a0, q⟩ := h
  refine ⟨W, S, r, A, F, a0, ?_⟩
  simp only [evE] at q
  cases c : evE G Φ a r S with
  | bad => rw [c] at q; exact q.elim
  | exc e S' => rw [c] at q; exact fun W' H' g' f' ok => q W' H' g' (fun a o e z => f' a o e (z.imp id no_t)) ok
  | ok u m S1 =>
    rw [c] at q
    simp only [Res.bind_ok] at q
    intro W1 H1 y g1 f1 hy ok1
    have f1 : Fr H H1 F false := fun a o e z => f1 a o e (z.imp id no_t)
    cases hs : getF S1 u f with
    | none => rw [hs] at q; exact q.elim
    | some s =>
      rw [hs] at q
      obtain ⟨l, cc, fs, rfl, e1, e2⟩ := getF_some hs
      obtain ⟨rfl, b, e3, rfl⟩ := obj_held hy
      have ok1 : Ok X.K T W1 H1 S1 F := ok1
      obtain ⟨b', dx, gs, B, P, R, e4, h0, h1, h2, h3, nd, hl, k⟩ := ok1.obj e1
      rw [e3] at e4
      cases e4
      obtain ⟨v, A1, A0, A2, e5, eB, e6, kk⟩ := h3.at hf e2
      refine ⟨b, _, dx, gs, v, rfl, h1, (C.cl cc h0).1, (C.cl cc h0).2 x (List.mem_of_getElem? hf), e5, ?_⟩
      cases s with
      | un => exact q.elim
      | sh w =>
        obtain ⟨_, z, ez, r⟩ := e6
        cases ez
        exact q W1 H1 v g1 f1 r ok1
      | own w =>
        obtain ⟨b2, rfl, eb, r⟩ := e6
        cases eb
        simp only at q
        split at q
        · rename_i S2 hp
          obtain ⟨l', c', fs', e7, e8, e9, rfl⟩ := putS_some hp
          cases e7
          rw [e1] at e8
          cases e8
          have gr : Grow W1 H1 (W1.addL [b2]) H1 := Grow.addL
          have rs : RepV X.K (W1.addL [b2]) H1 w (.ref b2) := r.shared (by simp)
          have fr := kk (W1.addL [b2]) H1 (.sh w) (.ref b2) [] gr (fun _ _ => rfl) ⟨rfl, _, rfl, rs⟩
          rw [putF_same e5] at fr
          have nb2 : ∀ a ∈ F ++ (P ++ ((b :: dx :: (A1 ++ ([] ++ A2))) ++ R)), a ≠ b2 := fun a ha z => by
            subst z
            rw [eB] at nd
            have hp : (F ++ (P ++ ((b :: dx :: (A1 ++ ([a] ++ A2))) ++ R))).Perm (a :: (F ++ (P ++ ((b :: dx :: (A1 ++ ([] ++ A2))) ++ R)))) := List.perm_iff_count.mpr fun z => by simp only [List.count_append, List.count_cons, List.count_nil]; omega
            exact (List.nodup_cons.mp (hp.nodup_iff.mp nd)).1 ha
          have okn : Ok X.K T (W1.addL [b2]) H1 (S1.set l (.ins cc (ptF f (.sh w) fs))) F := by
            refine ⟨⟨P ++ ((b :: dx :: (A1 ++ ([] ++ A2))) ++ R), k (W1.addL [b2]) H1 (.ins cc (ptF f (.sh w) fs)) (b :: dx :: (A1 ++ ([] ++ A2))) gr (fun _ _ => rfl) ⟨h0, dx, gs, _, rfl, h1, h2, fr⟩, ?_, fun a ha => ?_⟩, fun a z => ?_⟩
            · have hp : (F ++ (P ++ ((b :: dx :: B) ++ R))).Perm (b2 :: (F ++ (P ++ ((b :: dx :: (A1 ++ ([] ++ A2))) ++ R)))) := by
                rw [eB]
                exact List.perm_iff_count.mpr fun z => by simp only [List.count_append, List.count_cons, List.count_nil]; omega
              exact (List.nodup_cons.mp (hp.nodup_iff.mp nd)).2
            · have hm : a ∈ F ++ (P ++ ((b :: dx :: B) ++ R)) := by
                rw [eB]
                simp at ha ⊢
                rcases ha with z | z | z | z | z | z | z <;> simp [z]
              obtain ⟨q1, q2⟩ := hl a hm
              exact ⟨q1, fun z => z.elim q2 fun z => nb2 a ha (by simpa using z)⟩
            · rcases z with z | z
              · exact ok1.shd a z
              · simp at z
                subst z
                exact r.some
          exact q (W1.addL [b2]) H1 _ (g1.trans gr) f1 rs okn
        · exact q.elim
/-! ### methods -/
open PySem in
/-- o.m(e, ..), the class known when it runs -/
theorem pe_methD {CX : L2.CXT} {ta : L2.TE} {t : L2.TA} {o e : Expr} {es : List Expr} {m : Str} {apos pos : Pos} (he : L2.PE X o ta) (ha : L2.PA X (e :: es) t) (hb : attributeBase o m X.env (eval o X.env) = eval o X.env) (hl : (apos.endLine == pos.line) = true)
    (hfew : methodCallForm ((e :: es).length + ([] : List Keyword).length) (backTo pos (starEach (e :: es) X.env)) (backToKw pos (keywordEach [] X.env)) = true) (hst : starEach (e :: es) X.env = (false, eval e X.env) :: starEach es X.env) (hpl : (backTo pos (starEach es X.env)).any (·.1) = false) :
    L2.PE X (.Call (.Attribute o m apos) (e :: es) [] pos) (fun σ H Q => ta σ H fun x H1 => ∃ a C dx fs f k fd ps sp E, x = .ref a ∧ H1 a = some (.ins C dx fs) ∧ fs.lookup m = none ∧ L2.Cls X.K C ∧ L2.Meth X.K C m f ∧ L2.FnOk X.prog X.w X.K X.mg X.base CX k f fd ps sp ∧ L2.Room k X.A ∧
      L2.Binds X.K fd ps [] ∧ L2.PassesAt CX X σ E ∧ t σ H1 fun vs H2 => sp (x :: vs) H2 Q E) := by
  refine ⟨fun pins s σ H Q I h => ?_⟩
  rw [PySem.arm_eval_Call, hb]
  refine wpAny_bind (wpAny_mono (he.run pins s σ H _ I h) (fun u s1 ⟨x, H1, I1, rx, a, C, dx, fs, f, k, fd, ps, sp, E, ex, ea, l, c, hm, F, hr, hbd, hx, q⟩ => ?_) fun _ _ z => z)
  subst ex
  obtain rfl : u = Value.ref a := rx
  refine wpAny_bind (wpAny_standAt ?_)
  have hpos : methodCallPos true o X.env apos pos = pure pos := by unfold methodCallPos; simp [hl]
  unfold methodCall
  rw [hfew]
  refine wpAny_bind (wpAny_holding (L2.getmeth_ok I1 ea c hm l ?_))
  refine wpAny_bind (wpAny_of_eq hpos ?_)
  refine PySem.W.callWith_K (first := [.ref a]) (h₀ := X.base) I.ok.mod.kin hm.kp (L2.thn (ha.run pos pins s1 σ H1 _ I1 q) fun us s2 ⟨vs, H2, I2, r, q2⟩ => ⟨I2.kIn, ?_⟩) hst hpl
  exact L2.run_fnSD (us := .ref a :: us) (vs := .ref a :: vs) (dvs := []) (E := fun _ => E) F hr hbd .nil hx I2 (.cons rfl r) (by rw [List.append_nil]; exact q2)
open PySem in
theorem pe_methD0 {CX : L2.CXT} {ta : L2.TE} {o : Expr} {m : Str} {apos pos : Pos} (he : L2.PE X o ta) (hb : attributeBase o m X.env (eval o X.env) = eval o X.env) (hl : (apos.endLine == pos.line) = true) :
    L2.PE X (.Call (.Attribute o m apos) [] [] pos) (fun σ H Q => ta σ H fun x H1 => ∃ a C dx fs f k fd ps sp E, x = .ref a ∧ H1 a = some (.ins C dx fs) ∧ fs.lookup m = none ∧ L2.Cls X.K C ∧ L2.Meth X.K C m f ∧ L2.FnOk X.prog X.w X.K X.mg X.base CX k f fd ps sp ∧ L2.Room k X.A ∧
      L2.Binds X.K fd ps [] ∧ L2.PassesAt CX X σ E ∧ sp [x] H1 Q E) := by
  refine ⟨fun pins s σ H Q I h => ?_⟩
  rw [PySem.arm_eval_Call, hb]
  refine wpAny_bind (wpAny_mono (he.run pins s σ H _ I h) (fun u s1 ⟨x, H1, I1, rx, a, C, dx, fs, f, k, fd, ps, sp, E, ex, ea, l, c, hm, F, hr, hbd, hx, q⟩ => ?_) fun _ _ z => z)
  subst ex
  obtain rfl : u = Value.ref a := rx
  refine wpAny_bind (wpAny_standAt ?_)
  have hpos : methodCallPos true o X.env apos pos = pure pos := by unfold methodCallPos; simp [hl]
  have hfew : methodCallForm (([] : List Expr).length + ([] : List Keyword).length) (backTo pos (starEach [] X.env)) (backToKw pos (keywordEach [] X.env)) = true := rfl
  unfold methodCall
  rw [hfew]
  refine wpAny_bind (wpAny_holding (L2.getmeth_ok I1 ea c hm l ?_))
  refine wpAny_bind (wpAny_of_eq hpos ?_)
  exact PySem.W.callWith_K0 (first := [.ref a]) I1.kIn hm.kp (L2.run_fnSD (us := [.ref a]) (vs := [.ref a]) (dvs := []) (E := fun _ => E) F hr hbd .nil hx I1 (.cons rfl .nil) q)
theorem few_of1 {e : PySem.Expr} {env : PySem.Env} {cpos : PySem.Pos} (h : noStar e = true) : ((PySem.backTo cpos (PySem.starEach (e :: []) env)).all (fun x => !x.1) && (PySem.backToKw cpos (PySem.keywordEach [] env)).all (fun x => x.1.isSome)
      && decide ((e :: ([] : List PySem.Expr)).length + ([] : List PySem.Keyword).length + (if ([] : List PySem.Keyword).isEmpty then 0 else 1) < 30)) = true := by
  rw [star_of h]
  rfl
theorem form_of {es : List PySem.Expr} {env : PySem.Env} {pos : PySem.Pos} (h : noStars es = true) (hl : es.length < 20) : PySem.methodCallForm (es.length + ([] : List PySem.Keyword).length) (PySem.backTo pos (PySem.starEach es env)) (PySem.backToKw pos (PySem.keywordEach [] env)) = true := by
  have h1 : (PySem.backTo pos (PySem.starEach es env)).all (fun x => !x.1) = true := by
    have := plainA (env := env) (pos := pos) h
    rw [List.any_eq_false] at this
    rw [List.all_eq_true]
    intro x hx
    have := this x hx
    simpa using this
  unfold PySem.methodCallForm
  rw [h1]
  show (true && true && decide _) = true
  rw [Bool.true_and, Bool.true_and]
  refine decide_eq_true ?_
  show es.length + 0 + 0 < 30
  omega
theorem methOf_some {S : Sto} {u : PV} {m f : Nat} (h : methOf G S u m = some f) : ∃ l c fs, u = .obj l ∧ S[l]? = some (.ins c fs) ∧ G.meth c m = some f := by
  unfold methOf at h
  split at h
  · split at h
    · exact ⟨_, _, _, rfl, by assumption, h⟩
    · cases h
  · cases h
theorem e_meth (C : Ctx X T G Φ g sc N exc WX) (hfin : ∀ f vs S v m S', Φ f vs S = .ok v m S' → m.fin = true) {m : Nat} {x : Str} {a : CE} {es : CEs} {ea pe : PySem.Expr} {pes : List PySem.Expr} {apos pos : PySem.Pos} (hx : g.mts m = some x) (hb : notSuper ea = true) (hl : (apos.endLine == pos.line) = true) (hst : noStars (pe :: pes) = true) (hlen : (pe :: pes).length < 20)
    (ha : PEe X T WX ea (simpE a) (evE G Φ a)) (h : PAe X T WX (pe :: pes) (evA G Φ es)) : PEe X T WX (.Call (.Attribute ea x apos) (pe :: pes) [] pos) false (evE G Φ (.meth m a es)) := by
  have h1 := hst
  simp only [noStars, Bool.and_eq_true] at h1
  refine pe_imp (pe_methD (CX := L2.CX X.prog X.w) ha h (base_of hb) hl (form_of hst hlen) (star_of h1.1) (plainA h1.2)) fun σ H Q h => ?_
  obtain ⟨W, S, r, A, F, a0, q⟩ := h
  refine ⟨W, S, r, A, F, a0, ?_⟩
  simp only [evE] at q
  cases c : evE G Φ a r S with
  | bad => rw [c] at q; exact q.elim
  | exc e S' => rw [c] at q; exact fun W' H' g' f' ok => q W' H' g' (fun a o e z => f' a o e (z.imp id no_t)) ok
  | ok u md S1 =>
    rw [c] at q
    simp only [Res.bind_ok] at q
    intro W1 H1 y g1 f1 hy ok1
    have f1 : Fr H H1 F false := fun a o e z => f1 a o e (z.imp id no_t)
    cases hm : methOf G S1 u m with
    | none => rw [hm] at q; exact q.elim
    | some fn =>
      rw [hm] at q
      simp only at q
      obtain ⟨l, cc, fs, rfl, e1, e2⟩ := methOf_some hm
      obtain ⟨rfl, b, e3, rfl⟩ := obj_held hy
      have ok1 : Ok X.K T W1 H1 S1 F := ok1
      obtain ⟨b', dx, gs, B, P, R, e4, h0, h1, h2, h3, nd, hl, k⟩ := ok1.obj e1
      rw [e3] at e4
      cases e4
      obtain ⟨nx, kk, fa, fd, ps, hr, FF, hn, hmt, hbd⟩ := C.me cc m fn x h0 hx e2
      refine ⟨b, _, dx, gs, fa, kk, fd, ps, _, _, rfl, h1, h3.none nx, (C.cl cc h0).1, hmt, FF, hr, hbd, pass_of C σ, ?_⟩
      have a1 : At X.K T W1 S1 r A F σ H1 := a0.same (F := F) g1 f1 ok1
      refine ⟨W1, S1, r, A, F, a1, ?_⟩
      have hy1 : RepV X.K W1 H1 (.obj l) (.ref b) := hy
      cases c2 : evA G Φ es r S1 with
      | bad => rw [c2] at q; exact q.elim
      | exc e S' => rw [c2] at q; exact fun W' H' g' f' ok => q W' H' (g1.trans g') (fun a o e z => f' a o (f1 a o e z) z) ok
      | ok vs S2 =>
        rw [c2] at q
        simp only [Ress.bind_ok] at q
        intro W2 H2 xs B2 g2 f2 hx2 ok2
        have sl2 : SlsR X.K W2 H2 (.sh (.obj l) :: vs) ((V.ref b :: xs).map some) B2 := ⟨some (.ref b), xs.map some, [], B2, rfl, rfl, ⟨rfl, _, rfl, hy1.grow g2 _ _⟩, hx2⟩
        exact call_sp (fun c H' w => ⟨c, rfl, rfl, w⟩) hn (hfin fn) q (g1.trans g2) (fun a o e z => f2 a o (f1 a o e z) z) sl2 ok2
theorem e_meth0 (C : Ctx X T G Φ g sc N exc WX) (hfin : ∀ f vs S v m S', Φ f vs S = .ok v m S' → m.fin = true) {m : Nat} {x : Str} {a : CE} {ea : PySem.Expr} {apos pos : PySem.Pos} (hx : g.mts m = some x) (hb : notSuper ea = true) (hl : (apos.endLine == pos.line) = true)
    (ha : PEe X T WX ea (simpE a) (evE G Φ a)) : PEe X T WX (.Call (.Attribute ea x apos) [] [] pos) false (evE G Φ (.meth m a .nil)) := by
  refine pe_imp (pe_methD0 (CX := L2.CX X.prog X.w) ha (base_of hb) hl) fun σ H Q h => ?_
  obtain ⟨W, S, r, A, F, a0, q⟩ := h
  refine ⟨W, S, r, A, F, a0, ?_⟩
  simp only [evE] at q
  cases c : evE G Φ a r S with
  | bad => rw [c] at q; exact q.elim
  | exc e S' => rw [c] at q; exact fun W' H' g' f' ok => q W' H' g' (fun a o e z => f' a o e (z.imp id no_t)) ok
  | ok u md S1 =>
    rw [c] at q
    simp only [Res.bind_ok] at q
    intro W1 H1 y g1 f1 hy ok1
    have f1 : Fr H H1 F false := fun a o e z => f1 a o e (z.imp id no_t)
    cases hm : methOf G S1 u m with
    | none => rw [hm] at q; exact q.elim
    | some fn =>
      rw [hm] at q
      simp only [evA, Ress.bind_ok] at q
      obtain ⟨l, cc, fs, rfl, e1, e2⟩ := methOf_some hm
      obtain ⟨rfl, b, e3, rfl⟩ := obj_held hy
      have ok1 : Ok X.K T W1 H1 S1 F := ok1
      obtain ⟨b', dx, gs, B, P, R, e4, h0, h1, h2, h3, nd, hl, k⟩ := ok1.obj e1
      rw [e3] at e4
      cases e4
      obtain ⟨nx, kk, fa, fd, ps, hr, FF, hn, hmt, hbd⟩ := C.me cc m fn x h0 hx e2
      refine ⟨b, _, dx, gs, fa, kk, fd, ps, _, _, rfl, h1, h3.none nx, (C.cl cc h0).1, hmt, FF, hr, hbd, pass_of C σ, ?_⟩
      have hy1 : RepV X.K W1 H1 (.obj l) (.ref b) := hy
      have sl2 : SlsR X.K W1 H1 [.sh (.obj l)] ([V.ref b].map some) [] := ⟨some (.ref b), [], [], [], rfl, rfl, ⟨rfl, _, rfl, hy1⟩, rfl, rfl⟩
      exact call_sp (fun c H' w => ⟨c, rfl, rfl, w⟩) hn (hfin fn) q g1 f1 sl2 ok1
/-! ### new instances -/
open PySem in
theorem run_makeSD {CX : L2.CXT} {C f : Addr} {k : Nat} {fd : FuncData} {ps : List Str} {sp : L2.Sp} {E : L2.XK} {pins : List (Addr × Obj)} {σ : L2.St} {H : Hp} {s : Shared} {Q : L2.VK} {us : List Value} {vs : List V} (M : L2.Mk X.K C f) (F : L2.FnOk X.prog X.w X.K X.mg X.base CX k f fd ps sp) (hr : L2.Room (k + 1) X.A) (hb : L2.Binds X.K fd ps [])
    (hx : L2.PassesAt CX X σ E) (I : L2.Inv X pins σ H s) (r : L2.Vals vs us)
    (h : ∀ x dx, H x = none → H dx = none → dx ≠ x → sp (.ref x :: vs) (upd (upd H dx (.own x)) x (.ins C dx [])) (fun v H2 => v = .non ∧ Q (.ref x) H2) E) :
    wpAny (model X.prog X.w) X.A (call (.ref C) us) (L2.EP X pins σ Q) X.xe s := by
  have hq := h (s.heap.objs.size + 1) s.heap.objs.size (I.hok.fresh (Nat.le_succ _)) (I.hok.fresh (Nat.le_refl _)) (Nat.ne_of_lt (Nat.lt_succ_self _))
  have I2 := L2.Inv.made (C := C) I
  have r2 : L2.Vals (V.ref (s.heap.objs.size + 1) :: vs) (Value.ref (s.heap.objs.size + 1) :: us) := .cons rfl r
  have hl : ((Value.ref (s.heap.objs.size + 1) :: us) ++ []).length = ps.length := by
    have e := r2.length
    rw [F.len _ _ _ _ hq] at e
    rw [List.append_nil]
    exact e.symm
  have hbd := hb _ (Value.ref (s.heap.objs.size + 1) :: us) I2.kIn hl
  rw [List.append_nil] at hbd
  refine wpAny_call (L2.make_map (f := f) I.kIn M.makes M.init (beq_iff_eq.mp M.fn) (codeAny_mono (F.run _ X.stack _ _ ⟨Value.ref (s.heap.objs.size + 1) :: us, []⟩ (Value.ref (s.heap.objs.size + 1) :: us) _ _ E (hr.make C us [])
    (I2.env0.make C us []) hbd r2 hq) fun r s' hq' => ?_))
  cases r with
  | error e => exact hx pins _ _ e s' I2 hq'
  | ok fl =>
    cases fl with
    | ret u =>
      obtain ⟨v, H', I3, rv, ev, q3⟩ := I2.after hq'
      subst ev
      exact ⟨rv, ⟨V.ref (s.heap.objs.size + 1), H', I3, rfl, q3⟩⟩
    | next => exact False.elim hq'
    | brk => exact False.elim hq'
    | cont => exact False.elim hq'
open PySem in
theorem pe_makeSD {CX : L2.CXT} {C f : Addr} {k : Nat} {fd : FuncData} {ps : List Str} {sp : L2.Sp} {E : L2.St → L2.XK} {x : Str} {p pos : Pos} {e : Expr} {es : List Expr} {t : L2.TA} (M : L2.Mk X.K C f) (F : L2.FnOk X.prog X.w X.K X.mg X.base CX k f fd ps sp) (hr : L2.Room (k + 1) X.A) (hg : L2.Gl X x) (hm : X.mg x = some (.ref C)) (hb : L2.Binds X.K fd ps [])
    (hx : ∀ σ, L2.PassesAt CX X σ (E σ)) (ha : L2.PA X (e :: es) t) (hdb : (x == ("__debug__" : Str)) = false) (he : starEach (e :: es) X.env = (false, eval e X.env) :: starEach es X.env) (hpl : (backTo pos (starEach es X.env)).any (·.1) = false) :
    L2.PE X (.Call (.Name x p) (e :: es) [] pos) (fun σ H Q => t σ H fun vs H1 => ∀ x dx, H1 x = none → H1 dx = none → dx ≠ x → sp (.ref x :: vs) (upd (upd H1 dx (.own x)) x (.ins C dx [])) (fun v H2 => v = .non ∧ Q (.ref x) H2) (E σ)) := by
  refine ⟨fun pins s σ H Q I h => ?_⟩
  refine wpAny_Call_Name_kw (L2.ld_glob I hg hm ?_ hdb)
  refine PySem.W.callWith_K (h₀ := X.base) I.ok.mod.kin M.kp (L2.thn (ha.run pos pins s σ H _ I h) fun us s1 ⟨vs, H1, I1, r, q⟩ => ⟨I1.kIn, ?_⟩) he hpl
  exact run_makeSD M F hr hb (hx σ) I1 r q
theorem e_make (C : Ctx X T G Φ g sc N exc WX) (hfin : ∀ f vs S v m S', Φ f vs S = .ok v m S' → m.fin = true) {c : Nat} {x : Str} {es : CEs} {pe : PySem.Expr} {pes : List PySem.Expr} {p pos : PySem.Pos} (hx : g.cls c = some x) (hg : glB sc x = true) (hst : noStars (pe :: pes) = true)
    (h : PAe X T WX (pe :: pes) (evA G Φ es)) : PEe X T WX (.Call (.Name x p) (pe :: pes) [] pos) false (evE G Φ (.make c es)) := by
  obtain ⟨i, hi, ok, hd, k, fa, fd, ps, hr, F, hn, hm, M, hb⟩ := C.nw c x hx
  have h1 := hst
  simp only [noStars, Bool.and_eq_true] at h1
  refine pe_imp (pe_makeSD (E := fun σ cls d H => ∃ c, cls = exc c ∧ d = none ∧ WX c σ H) M F hr (gl_of C hg) hm hb (pass_of C) h hd (star_of h1.1) (plainA h1.2)) fun σ H Q h => ?_
  obtain ⟨W, S, r, A, F', a0, q⟩ := h
  refine ⟨W, S, r, A, F', a0, ?_⟩
  simp only [evE] at q
  cases c1 : evA G Φ es r S with
  | bad => rw [c1] at q; exact q.elim
  | exc c S' => rw [c1] at q; exact q
  | ok vs S1 =>
    rw [c1] at q
    simp only [Ress.bind_ok, hi] at q
    intro W1 H1 xs B g1 f1 hx ok1 y dx ny nd ne
    -- the heap with the new instance
    obtain ⟨A1, st1, nd1, hl1⟩ := ok1.st
    have len1 := st1.len
    have gr : Grow W1 H1 ⟨W1.m ++ [y], W1.sh⟩ (upd (upd H1 dx (.own y)) y (.ins (T.cls c) dx [])) := by
      refine ⟨⟨[y], rfl⟩, fun _ h => h, fun a w hs _ r => ?_, fun a xs hs e => ?_, fun a o u hs e => ?_⟩
      · obtain ⟨o, e⟩ := ok1.shd a hs
        have n1 := L2.ne_of_none e ny
        have n2 := L2.ne_of_none e nd
        exact r.imp (fun r => by rw [L2.upd_ne n1, L2.upd_ne n2]; exact r) (fun ⟨x, r⟩ => ⟨x, by rw [L2.upd_ne n1, L2.upd_ne n2]; exact r⟩)
      · rw [L2.upd_ne (L2.ne_of_none e ny), L2.upd_ne (L2.ne_of_none e nd)]; exact e
      · rw [L2.upd_ne (L2.ne_of_none e ny), L2.upd_ne (L2.ne_of_none e nd)]; exact e
    have same : ∀ a o, H1 a = some o → upd (upd H1 dx (.own y)) y (.ins (T.cls c) dx []) a = some o := fun a o e => by
      rw [L2.upd_ne (L2.ne_of_none e ny), L2.upd_ne (L2.ne_of_none e nd)]; exact e
    have sameA : ∀ a, (∃ o, H1 a = some o) → upd (upd H1 dx (.own y)) y (.ins (T.cls c) dx []) a = H1 a := fun a ⟨o, e⟩ => by rw [same a o e, e]
    have ny1 : ∀ b ∈ (B ++ F') ++ A1, b ≠ y ∧ b ≠ dx := fun b hb => by
      obtain ⟨⟨o, e, _⟩, _⟩ := hl1 b hb
      exact ⟨L2.ne_of_none e ny, L2.ne_of_none e nd⟩
    have st2 : StoR X.K T ⟨W1.m ++ [y], W1.sh⟩ (upd (upd H1 dx (.own y)) y (.ins (T.cls c) dx [])) (S1 ++ [.ins c []]) (W1.m ++ [y]) (A1 ++ [y, dx]) := by
      refine (st1.grow gr fun a ha => sameA a ?_).push ⟨ok, dx, [], [], rfl, L2.upd_same, by rw [L2.upd_ne ne]; exact L2.upd_same, rfl, rfl⟩
      obtain ⟨⟨o, e, _⟩, _⟩ := hl1 a (List.mem_append_right _ ha)
      exact ⟨o, e⟩
    have ok2 : Ok X.K T ⟨W1.m ++ [y], W1.sh⟩ (upd (upd H1 dx (.own y)) y (.ins (T.cls c) dx [])) (S1 ++ [.ins c []]) (B ++ F') := by
      refine ⟨⟨_, st2, ?_, fun b hb => ?_⟩, fun a hs => ?_⟩
      · rw [← List.append_assoc]
        refine List.nodup_append.mpr ⟨nd1, by simp [Ne.symm ne], fun a ha b hb => ?_⟩
        have := ny1 a ha
        simp at hb
        rcases hb with rfl | rfl
        · exact this.1
        · exact this.2
      · rw [← List.append_assoc] at hb
        rcases List.mem_append.mp hb with hb | hb
        · obtain ⟨⟨o, e, q⟩, n⟩ := hl1 b hb
          exact ⟨⟨o, same b o e, q⟩, n⟩
        · simp at hb
          rcases hb with rfl | rfl
          · exact ⟨⟨_, L2.upd_same, trivial⟩, fun z => by obtain ⟨o, e⟩ := ok1.shd _ z; rw [ny] at e; cases e⟩
          · exact ⟨⟨.own y, by rw [L2.upd_ne ne]; exact L2.upd_same, trivial⟩, fun z => by obtain ⟨o, e⟩ := ok1.shd _ z; rw [nd] at e; cases e⟩
      · obtain ⟨o, e⟩ := ok1.shd a hs
        exact ⟨o, same a o e⟩
    have hx2 : SlsR X.K ⟨W1.m ++ [y], W1.sh⟩ (upd (upd H1 dx (.own y)) y (.ins (T.cls c) dx [])) (.sh (.obj S1.length) :: vs) ((V.ref y :: xs).map some) B := by
      refine ⟨some (.ref y), xs.map some, [], B, rfl, rfl, ⟨rfl, _, rfl, ?_⟩, hx.grow gr fun a ha => sameA a ?_⟩
      · simp only [RepV]
        refine ⟨y, ?_, rfl⟩
        rw [← len1]
        simp
      · obtain ⟨⟨o, e, _⟩, _⟩ := hl1 a (by simp [ha])
        exact ⟨o, e⟩
    have rep : ∀ W' H', Grow ⟨W1.m ++ [y], W1.sh⟩ (upd (upd H1 dx (.own y)) y (.ins (T.cls c) dx [])) W' H' → RepV X.K W' H' (.obj S1.length) (.ref y) := fun W' H' g' => by
      refine RepV.grow g' _ _ ?_
      simp only [RepV]
      refine ⟨y, ?_, rfl⟩
      rw [← len1]
      simp
    have f2 : Fr H (upd (upd H1 dx (.own y)) y (.ins (T.cls c) dx [])) F' false := fun a o e z => same a o (f1 a o e z)
    have frB : Fr H1 (upd (upd H1 dx (.own y)) y (.ins (T.cls c) dx [])) (B ++ F') false := fun a o e _ => same a o e
    refine ⟨?_, ⟨W1.m ++ [y], W1.sh⟩, _, B, F', _, hx2, ok2, ?_⟩
    · have e1 := hx2.len
      rw [List.length_map] at e1
      rw [e1]
      refine hn _ (S1 ++ [.ins c []]) ?_
      intro z
      rw [z] at q
      exact q.elim
    · cases c2 : Φ i (.sh (.obj S1.length) :: vs) (S1 ++ [.ins c []]) with
      | bad => rw [c2] at q; exact q.elim
      | exc e S' =>
        rw [c2] at q
        exact fun W' H' g' f' ok' => ⟨e, rfl, rfl, q W' H' ((g1.trans gr).trans g') (fun a o e z => f' a o (f2 a o e z) z) ok'⟩
      | ok v m S2 =>
        rw [c2] at q
        simp only [Res.bind_ok] at q
        split at q
        · refine ⟨hfin _ _ _ _ _ _ c2, fun W' H' z g' f' hz ok' => ?_⟩
          have hz : RepV X.K W' H' .non z := hz
          simp only [RepV] at hz
          subst hz
          exact ⟨rfl, q W' H' (.ref y) ((g1.trans gr).trans g') (fun a o e z => f' a o (f2 a o e z) z) (rep W' H' g') ok'⟩
        · exact q.elim
/-! ### built-ins that read one thing; get, count -/
theorem rcn1 {b : Bi} {a : CE} (σ : L2.St) (H : Hp) (Q : L2.VK) (h : TIe X.K T WX false (evE G Φ (.bi1 b a)) σ H Q) : L2.tCons (TIe X.K T WX (simpE a) (evE G Φ a)) L2.tNil σ H fun vs H1 => RCn X.K T (bi b) vs H1 Q := by
  obtain ⟨W, S, r, A, F, a0, q⟩ := h
  refine ⟨W, S, r, A, F, a0, ?_⟩
  simp only [evE] at q
  cases c1 : evE G Φ a r S with
  | bad => rw [c1] at q; exact q.elim
  | exc c S' => rw [c1] at q; exact fun W' H' g' f' ok => q W' H' g' (fun a o e z => f' a o e (z.imp id no_t)) ok
  | ok v m S1 =>
    rw [c1] at q
    simp only [Res.bind_ok] at q
    intro W1 H1 x g1 f1 hx ok1
    have f1 : Fr H H1 F false := fun a o e z => f1 a o e (z.imp id no_t)
    obtain ⟨w, m', e, hf, q⟩ := ofO_ok (KE X.K T W H F false WX σ Q) (fun z => z) q
    refine ⟨W1, S1, ownA m x ++ F, _, w, m', (show Vws X.K W1 H1 [view S1 v] [x] from ⟨x, [], rfl, hx.vw ⟨_, ok1⟩, rfl⟩), ok1, e, hf, fun W' H' z g' f' hz ok' => ?_⟩
    exact q W' H' z (g1.trans g') (fun a o e hh => f' a o (f1 a o e hh) (.inr rfl)) (hz.fin hf) ok'.mid
theorem e_bi1B (C : Ctx X T G Φ g sc N exc WX) {b : Bi} {x : Str} {id : String} {a : CE} {pe : PySem.Expr} {p pos : PySem.Pos} (hc : L2.CallR X (.builtin id) (RCn X.K T (bi b))) (hv : PySem.bootBuiltins x = some (.builtin id)) (hx : x ∈ g.blt) (hn : x ≠ "__name__") (hd : (x == ("__debug__" : Str)) = false)
    (hg : glB sc x = true) (hst : noStar pe = true) (h : PEe X T WX pe (simpE a) (evE G Φ a)) : PEe X T WX (.Call (.Name x p) [pe] [] pos) false (evE G Φ (.bi1 b a)) :=
  pe_imp (L2.pe_callB hc (gl_of C hg) (C.blt x hx) hv (L2.pa_cons h L2.pa_nil (star_of hst)) hn hd (star_of hst) (plainA rfl)) fun σ H Q q => rcn1 σ H Q q
theorem e_bi1T (C : Ctx X T G Φ g sc N exc WX) {b : Bi} {x : Str} {id : String} {a : CE} {pe : PySem.Expr} {p pos : PySem.Pos} (hc : L2.CallR X (.type id) (RCn X.K T (bi b))) (hv : PySem.bootBuiltins x = some (.type id)) (hx : x ∈ g.blt) (hn : x ≠ "__name__") (hd : (x == ("__debug__" : Str)) = false)
    (hg : glB sc x = true) (hst : noStar pe = true) (h : PEe X T WX pe (simpE a) (evE G Φ a)) : PEe X T WX (.Call (.Name x p) [pe] [] pos) false (evE G Φ (.bi1 b a)) :=
  pe_imp (L2.pe_callTy hc (gl_of C hg) (C.blt x hx) hv (L2.pa_cons h L2.pa_nil (star_of hst)) hn hd (star_of hst) (plainA rfl)) fun σ H Q q => rcn1 σ H Q q
open PySem in
theorem pe_dget1E {o e : Expr} {apos cpos : Pos} {td ty : L2.TE} (hu : X.A.units + 1 < cLine) (ho : L2.PE X o td) (he : L2.PE X e ty) (m : L2.M1 X o "get" apos e cpos) : L2.PE X (.Call (.Attribute o "get" apos) [e] [] cpos)
    (fun σ H Q => td σ H fun x H1 => ∃ a, x = .ref a ∧ L2.IsD H1 a ∧ ty σ H1 fun y H2 => ∃ o, DGetE H2 a y o ∧ Q (o.getD .non) H2) := by
  refine ⟨fun pins s σ H Q I h => ?_⟩
  refine wpAny_Call_method m.base m.few m.line PySem.F.plainAttrs_dict PySem.F.slot_dict_get PySem.F.type_dict_get (L2.thn (ho.run pins s σ H _ I h) fun u s1 ⟨x, H1, I1, rx, a, ex, d, q1⟩ => ?_)
  subst ex
  obtain rfl : u = Value.ref a := rx
  obtain ⟨t1, t2, _⟩ := L2.isD_at I1 d
  refine ⟨t1, t2, ?_⟩
  rw [m.trees]
  refine Calls.callWith_builtin rfl (Calls.evalArgs_plain (Calls.spliced_cons (L2.thn (he.run pins s1 σ H1 _ I1 q1) fun iv s2 ⟨y, H2, I2, ry, ov, g, q2⟩ => Calls.spliced_nil ?_)))
  exact d_get1E hu I2 g ry fun w' s3 I3 rw' => ⟨_, H2, I3, rw', q2⟩
open PySem in
theorem pe_dget2E {o e f : Expr} {apos cpos : Pos} {td ty tx : L2.TE} (hu : X.A.units + 1 < cLine) (ho : L2.PE X o td) (he : L2.PE X e ty) (hf : L2.PE X f tx) (m : L2.M2 X o "get" apos e f cpos) : L2.PE X (.Call (.Attribute o "get" apos) [e, f] [] cpos)
    (fun σ H Q => td σ H fun x H1 => ∃ a, x = .ref a ∧ L2.IsD H1 a ∧ ty σ H1 fun y H2 => tx σ H2 fun z H3 => ∃ o, DGetE H3 a y o ∧ Q (o.getD z) H3) := by
  refine ⟨fun pins s σ H Q I h => ?_⟩
  refine wpAny_Call_method m.base m.few m.line PySem.F.plainAttrs_dict PySem.F.slot_dict_get PySem.F.type_dict_get (L2.thn (ho.run pins s σ H _ I h) fun u s1 ⟨x, H1, I1, rx, a, ex, d, q1⟩ => ?_)
  subst ex
  obtain rfl : u = Value.ref a := rx
  obtain ⟨t1, t2, _⟩ := L2.isD_at I1 d
  refine ⟨t1, t2, ?_⟩
  rw [m.trees]
  refine Calls.callWith_builtin rfl (Calls.evalArgs_plain (Calls.spliced_cons (L2.thn (he.run pins s1 σ H1 _ I1 q1) fun iv s2 ⟨y, H2, I2, ry, q2⟩ =>
    Calls.spliced_cons (L2.thn (hf.run pins s2 σ H2 _ I2 q2) fun fv s3 ⟨z, H3, I3, rz, ov, g, q3⟩ => Calls.spliced_nil ?_))))
  exact d_get2E hu I3 g ry rz fun w' s4 I4 rw' => ⟨_, H3, I4, rw', q3⟩
theorem m1_of {o e : PySem.Expr} {m : Str} {apos cpos : PySem.Pos} (hb : notSuper o = true) (hl : (apos.endLine == cpos.line) = true) (hs : noStar e = true) : L2.M1 X o m apos e cpos :=
  ⟨base_of hb, few_of1 hs, hl, by rw [star_of hs]; rfl⟩
theorem m2_of {o e f : PySem.Expr} {m : Str} {apos cpos : PySem.Pos} (hb : notSuper o = true) (hl : (apos.endLine == cpos.line) = true) (hs : noStar e = true) (hs2 : noStar f = true) : L2.M2 X o m apos e f cpos :=
  ⟨base_of hb, by rw [star_of hs, star_of hs2]; rfl, hl, by rw [star_of hs, star_of hs2]; rfl⟩
theorem isD_vw {K : PySem.W.Frag} {W : Wd} {H : Hp} {kvs : List (Ky × PV)} {x : V} (h : Vw K W H (.dct kvs) x) : ∃ a, x = .ref a ∧ L2.IsD H a := by
  obtain ⟨a, rfl, h⟩ := h
  exact ⟨a, rfl, h.imp (fun ⟨ks, r, _⟩ => ⟨ks, r⟩) (fun ⟨ks, r, _⟩ => ⟨ks, r⟩)⟩
theorem dget_of' {K : PySem.W.Frag} {W : Wd} {H : Hp} {kvs : List (Ky × PV)} {x y : V} {v : PV} {o : Option PV} {a : Addr} (hd : Vw K W H (.dct kvs) x) (hx : x = .ref a) (hv : RepV K W H v y) (e : getK v kvs = some o) : ∃ r, DGetE H a y r ∧ Found K W H o r := by
  obtain ⟨b, r, e1, _, h1, h2⟩ := dget_of hd hv e
  rw [hx] at e1
  cases e1
  exact ⟨r, h1, h2⟩
theorem isDct_some {v : PV} (h : isDct v = true) : ∃ kvs, v = .dct kvs := by
  cases v <;> first | exact ⟨_, rfl⟩ | cases h
theorem isLst_some {v : PV} (h : isLst v = true) : ∃ kvs, v = .lst kvs := by
  cases v <;> first | exact ⟨_, rfl⟩ | cases h
theorem e_get1 (C : Ctx X T G Φ g sc N exc WX) {a b : CE} {ea eb : PySem.Expr} {apos cpos : PySem.Pos} (hb : notSuper ea = true) (hl : (apos.endLine == cpos.line) = true) (hs : noStar eb = true) (ha : PEe X T WX ea (simpE a) (evE G Φ a)) (hk : PEe X T WX eb (simpE b) (evE G Φ b)) :
    PEe X T WX (.Call (.Attribute ea "get" apos) [eb] [] cpos) false (evE G Φ (.get1 a b)) := by
  refine pe_imp (pe_dget1E (by have := C.units; omega) ha hk (m1_of hb hl hs)) fun σ H Q h => ?_
  obtain ⟨W, S, r, A, F, a0, q⟩ := h
  refine ⟨W, S, r, A, F, a0, ?_⟩
  simp only [evE] at q
  cases c : evE G Φ a r S with
  | bad => rw [c] at q; exact q.elim
  | exc e S' => rw [c] at q; exact fun W' H' g' f' ok => q W' H' g' (fun a o e z => f' a o e (z.imp id no_t)) ok
  | ok u m S1 =>
    rw [c] at q
    simp only [Res.bindK_ok] at q
    intro W1 H1 x g1 f1 hx ok1
    have hm : m.ok (simpE b) = true := by
      cases hm : m.ok (simpE b) with
      | true => rfl
      | false => rw [hm] at q; exact q.elim
    rw [if_pos hm] at q
    cases hd : isDct (view S1 u) with
    | false => rw [hd] at q; exact q.elim
    | true =>
      rw [hd, if_pos rfl] at q
      obtain ⟨kv0, e0⟩ := isDct_some hd
      have vw1 := hx.vw ⟨_, ok1⟩
      rw [e0] at vw1
      obtain ⟨ad, rfl, isd⟩ := isD_vw vw1
      refine ⟨ad, rfl, isd, W1, S1, r, A, _, a0.next g1 f1 ok1, ?_⟩
      have w1 : Fr H H1 F false := fun a o e z => f1 a o e (z.imp id no_t)
      cases c2 : evE G Φ b r S1 with
      | bad => rw [c2] at q; exact q.elim
      | exc e S' => rw [c2] at q; exact fun W' H' g' f' ok => q W' H' (g1.trans g') (w1.trans f' no_t no_t) ok.drop
      | ok y n S2 =>
        rw [c2] at q
        simp only [Res.bind_ok] at q
        intro W2 H2 w g2 f2 hy ok2
        have hx2 := hx.next ok1 g2 f2 hm (F' := ownA n w ++ (ownA m (.ref ad) ++ F)) fun a ha => by simp [ha]
        have vw2 := hx2.vw ⟨_, ok2⟩
        split at q
        · rename_i kvs ev
          rw [ev] at vw2
          cases hg : getK y kvs with
          | none => rw [hg] at q; exact q.elim
          | some o =>
            rw [hg] at q
            obtain ⟨r', dg, fd⟩ := dget_of' vw2 rfl hy hg
            have rep : RepV X.K W2 H2 (o.getD .non) (r'.getD .non) := by
              cases o with
              | none =>
                obtain rfl : r' = none := fd
                show RepV _ _ _ _ _
                simp only [Option.getD_none, RepV]
              | some v =>
                obtain ⟨z, rfl, rz⟩ := fd
                exact rz
            have ok2 : Ok X.K T W2 H2 S2 (ownA m (.ref ad) ++ F) := ok2
            exact ⟨r', dg, q W2 H2 _ (g1.trans g2) (w1.trans f2 no_t no_t) rep ok2.drop⟩
        · exact q.elim
theorem e_get2 (C : Ctx X T G Φ g sc N exc WX) {a b d : CE} {ea eb ed : PySem.Expr} {apos cpos : PySem.Pos} (hb : notSuper ea = true) (hl : (apos.endLine == cpos.line) = true) (hs : noStar eb = true) (hs2 : noStar ed = true) (ha : PEe X T WX ea (simpE a) (evE G Φ a)) (hk : PEe X T WX eb (simpE b) (evE G Φ b)) (hz : PEe X T WX ed (simpE d) (evE G Φ d)) :
    PEe X T WX (.Call (.Attribute ea "get" apos) [eb, ed] [] cpos) false (evE G Φ (.get2 a b d)) := by
  refine pe_imp (pe_dget2E (by have := C.units; omega) ha hk hz (m2_of hb hl hs hs2)) fun σ H Q h => ?_
  obtain ⟨W, S, r, A, F, a0, q⟩ := h
  refine ⟨W, S, r, A, F, a0, ?_⟩
  simp only [evE] at q
  cases c : evE G Φ a r S with
  | bad => rw [c] at q; exact q.elim
  | exc e S' => rw [c] at q; exact fun W' H' g' f' ok => q W' H' g' (fun a o e z => f' a o e (z.imp id no_t)) ok
  | ok u m S1 =>
    rw [c] at q
    simp only [Res.bindK_ok] at q
    intro W1 H1 x g1 f1 hx ok1
    have hm : m.ok (simpE b && simpE d) = true := by
      cases hm : m.ok (simpE b && simpE d) with
      | true => rfl
      | false => rw [hm] at q; exact q.elim
    rw [if_pos hm] at q
    have hm1 : m.ok (simpE b) = true := by cases m <;> first | rfl | exact (simp_and hm).1
    have hm2 : m.ok (simpE d) = true := by cases m <;> first | rfl | exact (simp_and hm).2
    cases hd : isDct (view S1 u) with
    | false => rw [hd] at q; exact q.elim
    | true =>
      rw [hd, if_pos rfl] at q
      obtain ⟨kv0, e0⟩ := isDct_some hd
      have vw1 := hx.vw ⟨_, ok1⟩
      rw [e0] at vw1
      obtain ⟨ad, rfl, isd⟩ := isD_vw vw1
      refine ⟨ad, rfl, isd, W1, S1, r, A, _, a0.next g1 f1 ok1, ?_⟩
      have w1 : Fr H H1 F false := fun a o e z => f1 a o e (z.imp id no_t)
      cases c2 : evE G Φ b r S1 with
      | bad => rw [c2] at q; exact q.elim
      | exc e S' => rw [c2] at q; exact fun W' H' g' f' ok => q W' H' (g1.trans g') (w1.trans f' no_t no_t) ok.drop
      | ok y n S2 =>
        rw [c2] at q
        simp only [Res.bind_ok] at q
        intro W2 H2 w g2 f2 hy ok2
        have w2 : Fr H H2 F false := w1.trans f2 no_t no_t
        have hx2 := hx.next ok1 g2 f2 hm1 (F' := ownA n w ++ (ownA m (.ref ad) ++ F)) fun a ha => by simp [ha]
        refine ⟨W2, S2, r, A, _, (a0.next g1 f1 ok1).next g2 f2 ok2, ?_⟩
        cases c3 : evE G Φ d r S2 with
        | bad => rw [c3] at q; exact q.elim
        | exc e S' => rw [c3] at q; exact fun W' H' g' f' ok => q W' H' ((g1.trans g2).trans g') (fun a o e z => f' a o (w2 a o e z) (z.imp (fun z => by simp [z]) no_t)) ok.drop.drop
        | ok zv n3 S3 =>
          rw [c3] at q
          simp only [Res.bind_ok] at q
          intro W3 H3 w3 g3 f3 hy3 ok3
          split at q
          · rename_i kvs ev
            have hy : RepV X.K W2 H2 y w := hy
            have hy3 : RepV X.K W3 H3 zv w3 := hy3
            have ok2 : Ok X.K T W2 H2 S2 (ownA m (.ref ad) ++ F) := ok2
            have ok3 : Ok X.K T W3 H3 S3 (ownA m (.ref ad) ++ F) := ok3
            have hx3 : Held X.K W3 H3 (ownA m (.ref ad) ++ F) m u (.ref ad) := by
              refine Held.next (F := F) (S := S2) ?_ ok2 g3 f3 hm2 fun a ha => by simp [ha]
              cases m with
              | bor =>
                obtain ⟨a, e, z⟩ := hx2
                refine ⟨a, e, z.imp (fun z => ⟨z.1, ?_⟩) id⟩
                have := z.2
                simpa [ownA] using this
              | _ => exact hx2
            have vw3 := hx3.vw ⟨_, ok3⟩
            rw [ev] at vw3
            cases hg : getK y kvs with
            | none => rw [hg] at q; exact q.elim
            | some o =>
              rw [hg] at q
              obtain ⟨r', dg, fd⟩ := dget_of' vw3 rfl (hy.grow g3 _ _) hg
              have rep : RepV X.K W3 H3 (o.getD zv) (r'.getD w3) := by
                cases o with
                | none =>
                  obtain rfl : r' = none := fd
                  exact hy3
                | some v =>
                  obtain ⟨z, rfl, rz⟩ := fd
                  exact rz
              exact ⟨r', dg, q W3 H3 _ ((g1.trans g2).trans g3) (fun a o e z => f3 a o (w2 a o e z) (z.imp (fun z => by simp [z]) no_t)) rep ok3.drop⟩
          · exact q.elim
/-! ### how often, where -/
theorem lst_reads {K : PySem.W.Frag} {W : Wd} {H : Hp} {xs : List PV} {x : V} (h : Vw K W H (.lst xs) x) : ∃ a vs, x = .ref a ∧ Rd H a (.lst vs) ∧ RepVs K W H xs vs := h
def rFind (X : L2.Cx) (T : Tb) (f : PV → PV → Option PV) : V → List V → Hp → L2.VK → Prop := fun x vs H Q => ∃ y W S F v, vs = [y] ∧ (∃ u1 u2, Vw X.K W H u1 x ∧ Vw X.K W H u2 y ∧ f u1 u2 = some v) ∧ Ok X.K T W H S F ∧ Aft X.K T W H S F v .sh Q
theorem find_toD (x : PV) (hx : data x = true) : ∀ ys : List PV, datas ys = true → (toDs ys).countP (fun z => PyData.eqv z (toD x)) = ys.countP (fun z => eqv z x) ∧ (toDs ys).findIdx? (fun z => PyData.eqv z (toD x)) = ys.findIdx? fun z => eqv z x
  | [], _ => ⟨rfl, rfl⟩
  | y :: ys, h => by
    simp only [datas, Bool.and_eq_true] at h
    obtain ⟨h1, h2⟩ := find_toD x hx ys h.2
    simp only [toDs, List.countP_cons, List.findIdx?_cons, h1, h2, eqv_toD y x h.1 hx]
    exact ⟨trivial, trivial⟩
open PySem in
theorem mt_cnt (hu : X.A.units + 64 < cLine) : L2.MtR X "list.count" (rFind X T countV) := by
  intro pins s σ H x vs v us Q I rx rxs ⟨y, W, S, F, w, e, ⟨u1, u2, h1, h2, e3⟩, ok, q⟩
  subst e
  obtain ⟨u, rfl, ru⟩ := rxs.one
  cases u1 with
  | lst xs =>
    simp only [countV] at e3
    split at e3
    · rename_i hc
      simp only [Bool.and_eq_true, decide_eq_true_eq] at hc
      obtain ⟨⟨d1, d2⟩, hd⟩ := hc
      cases e3
      obtain ⟨a, ws, rfl, rd, rp⟩ := lst_reads h1
      cases rx
      obtain ⟨z, its, n, r2, e2⟩ := lst_at I rd
      obtain ⟨ps, c1⟩ := dps_of xs ws d1 rp
      obtain ⟨p2, c2⟩ := dp_vw d2 h2
      obtain ⟨as, r1⟩ := L2.Dp.readsAll I _ _ _ ps r2
      obtain ⟨bs, r3⟩ := L2.Dp.reads I _ _ _ p2 ru
      refine PySem.SeqAt.count_list_data (vs := its.toArray) (as := as) (bs := bs) (xs := toDs xs) (d := toD u2) ⟨_, e2, rfl, n, rfl⟩ (by simpa using r1) r3 (PyData.plainAll_of_canLay0 _ c1) (PyData.plain_of_canLay0 _ c2) ?_ ?_
      · rw [deps_toD, dep_toD]; omega
      · rw [(find_toD u2 d2 xs d1).1]
        exact ⟨.int _, H, I.tok _, ⟨_, rfl⟩, fin_int ok q⟩
    · cases e3
  | _ => cases e3
open PySem in
theorem mt_idx (hu : X.A.units + 64 < cLine) : L2.MtR X "list.index" (rFind X T indexV) := by
  intro pins s σ H x vs v us Q I rx rxs ⟨y, W, S, F, w, e, ⟨u1, u2, h1, h2, e3⟩, ok, q⟩
  subst e
  obtain ⟨u, rfl, ru⟩ := rxs.one
  cases u1 with
  | lst xs =>
    simp only [indexV] at e3
    split at e3
    · rename_i hc
      simp only [Bool.and_eq_true, decide_eq_true_eq] at hc
      obtain ⟨⟨d1, d2⟩, hd⟩ := hc
      obtain ⟨j, hj, rfl⟩ := Option.map_eq_some_iff.mp e3
      obtain ⟨a, ws, rfl, rd, rp⟩ := lst_reads h1
      cases rx
      obtain ⟨z, its, n, r2, e2⟩ := lst_at I rd
      obtain ⟨ps, c1⟩ := dps_of xs ws d1 rp
      obtain ⟨p2, c2⟩ := dp_vw d2 h2
      obtain ⟨as, r1⟩ := L2.Dp.readsAll I _ _ _ ps r2
      obtain ⟨bs, r3⟩ := L2.Dp.reads I _ _ _ p2 ru
      have hj' : PySem.SeqAt.dataPlace (toDs xs) (toD u2) = some j := by
        unfold PySem.SeqAt.dataPlace
        rw [(find_toD u2 d2 xs d1).2]
        exact hj
      have rs : ReadsAll s.heap its.toArray.toList (toDs xs) as := by simpa using r1
      have px := PyData.plainAll_of_canLay0 _ c1
      obtain ⟨hjl, hit, hno⟩ := PySem.SeqAt.hit_at rs px hj'
      have hz : its.toArray.size ≤ sizeLine := by
        have := r2.length
        rw [List.size_toArray]
        omega
      have hsl := sizeLine_eq
      exact call_meets PySem.F.slot_list_index ⟨_, e2, rfl⟩ PySem.F.entry_list_index (PySem.F.args_list_index_2 _ _) (PySem.SeqAt.list_indexAt a its.toArray n none #[] u (fun y => PyData.eqv (PySem.SeqAt.readOf s.heap y) (toD u2)) j hjl (by omega) hit hno)
        ⟨e2, PySem.SeqAt.items_plain rs r3 px (PyData.plain_of_canLay0 _ c2) (by rw [deps_toD, dep_toD]; omega), ⟨.int _, H, I.tok _, ⟨_, rfl⟩, fin_int ok q⟩⟩
    · cases e3
  | _ => cases e3
/-- a list asked about a thing -/
theorem find_read {f : PV → PV → Option PV} {a b : CE} (σ : L2.St) (H : Hp) (Q : L2.VK)
    (h : TIe X.K T WX false (fun r S => (evE G Φ a r S).bindK (simpE b) fun x _ S1 => if isLst (view S1 x) then (evE G Φ b r S1).bind fun y _ S2 => ofV S2 (f (view S2 x) (view S2 y)) else .bad) σ H Q) :
    L2.tBM X.K "list" (rFind X T f) (TIe X.K T WX (simpE a) (evE G Φ a)) (L2.tCons (TIe X.K T WX (simpE b) (evE G Φ b)) L2.tNil) σ H Q := by
  obtain ⟨W, S, r, A, F, a0, q⟩ := h
  refine ⟨W, S, r, A, F, a0, ?_⟩
  simp only at q
  cases c : evE G Φ a r S with
  | bad => rw [c] at q; exact q.elim
  | exc e S' => rw [c] at q; exact fun W' H' g' f' ok => q W' H' g' (fun a o e z => f' a o e (z.imp id no_t)) ok
  | ok u m S1 =>
    rw [c] at q
    simp only [Res.bindK_ok] at q
    intro W1 H1 x g1 f1 hx ok1
    have hm : m.ok (simpE b) = true := by
      cases hm : m.ok (simpE b) with
      | true => rfl
      | false => rw [hm] at q; exact q.elim
    rw [if_pos hm] at q
    cases hd : isLst (view S1 u) with
    | false => rw [hd] at q; exact q.elim
    | true =>
      rw [hd, if_pos rfl] at q
      obtain ⟨kv0, e0⟩ := isLst_some hd
      have vw1 := hx.vw ⟨_, ok1⟩
      rw [e0] at vw1
      obtain ⟨ad, ws, rfl, rd, rp⟩ := lst_reads vw1
      refine ⟨.inl ⟨rfl, ws, .inl rd⟩, W1, S1, r, A, _, a0.next g1 f1 ok1, ?_⟩
      have w1 : Fr H H1 F false := fun a o e z => f1 a o e (z.imp id no_t)
      cases c2 : evE G Φ b r S1 with
      | bad => rw [c2] at q; exact q.elim
      | exc e S' => rw [c2] at q; exact fun W' H' g' f' ok => q W' H' (g1.trans g') (w1.trans f' no_t no_t) ok.drop
      | ok y n S2 =>
        rw [c2] at q
        simp only [Res.bind_ok] at q
        intro W2 H2 w g2 f2 hy ok2
        have hx2 := hx.next ok1 g2 f2 hm (F' := ownA n w ++ (ownA m (.ref ad) ++ F)) fun a ha => by simp [ha]
        have vw2 := hx2.vw ⟨_, ok2⟩
        cases hf : f (view S2 u) (view S2 y) with
        | none => rw [hf] at q; exact q.elim
        | some v =>
          rw [hf] at q
          refine ⟨w, W2, S2, _, v, rfl, ⟨_, _, vw2, hy.vw ⟨_, ok2⟩, hf⟩, ok2, fun W' H' z g' f' hz ok' => ?_⟩
          have ok'' : Ok X.K T W' H' S2 (ownA n w ++ (ownA m (.ref ad) ++ F)) := ok'
          exact q W' H' z ((g1.trans g2).trans g') (fun a o e hh => f' a o (f2 a o (w1 a o e (hh.imp id no_t)) (hh.imp (fun z => by simp [z]) no_t)) (.inr rfl)) hz ok''.drop.drop
theorem e_count (C : Ctx X T G Φ g sc N exc WX) {a b : CE} {ea eb : PySem.Expr} {apos cpos : PySem.Pos} (hb : notSuper ea = true) (hl : (apos.endLine == cpos.line) = true) (hs : noStar eb = true) (ha : PEe X T WX ea (simpE a) (evE G Φ a)) (hk : PEe X T WX eb (simpE b) (evE G Φ b)) :
    PEe X T WX (.Call (.Attribute ea "count" apos) [eb] [] cpos) false (evE G Φ (.count a b)) := by
  refine pe_imp (L2.pe_bm PySem.F.plainAttrs_list PySem.F.slot_list_count PySem.F.type_list_count (mt_cnt (T := T) (by have := C.units; omega)) ha (L2.pa_cons hk L2.pa_nil (star_of hs)) (base_of hb) (few_of1 hs) hl (star_of hs) rfl) fun σ H Q h => find_read σ H Q ?_
  have e : evE G Φ (.count a b) = fun r S => (evE G Φ a r S).bindK (simpE b) fun x _ S1 => if isLst (view S1 x) then (evE G Φ b r S1).bind fun y _ S2 => ofV S2 (countV (view S2 x) (view S2 y)) else .bad := by
    funext r S
    simp only [evE]
  rw [e] at h
  exact h
theorem e_index (C : Ctx X T G Φ g sc N exc WX) {a b : CE} {ea eb : PySem.Expr} {apos cpos : PySem.Pos} (hb : notSuper ea = true) (hl : (apos.endLine == cpos.line) = true) (hs : noStar eb = true) (ha : PEe X T WX ea (simpE a) (evE G Φ a)) (hk : PEe X T WX eb (simpE b) (evE G Φ b)) :
    PEe X T WX (.Call (.Attribute ea "index" apos) [eb] [] cpos) false (evE G Φ (.index a b)) := by
  refine pe_imp (L2.pe_bm PySem.F.plainAttrs_list PySem.F.slot_list_index PySem.F.type_list_index (mt_idx (T := T) (by have := C.units; omega)) ha (L2.pa_cons hk L2.pa_nil (star_of hs)) (base_of hb) (few_of1 hs) hl (star_of hs) rfl) fun σ H Q h => find_read σ H Q ?_
  have e : evE G Φ (.index a b) = fun r S => (evE G Φ a r S).bindK (simpE b) fun x _ S1 => if isLst (view S1 x) then (evE G Φ b r S1).bind fun y _ S2 => ofV S2 (indexV (view S2 x) (view S2 y)) else .bad := by
    funext r S
    simp only [evE]
  rw [e] at h
  exact h
end
end SR

set_option maxRecDepth 100000
/-! Tests, built-ins called, and all expressions together. -/
namespace SR
open PySem (Addr Str Value PyData Heap)
open L2 (V Hp HO Key upd Rd SqL SqT)
section
variable {X : L2.Cx} {T : Tb} {G : Prg} {Φ : Phi} {g : Sg} {sc : PySem.Scope} {N : List Str} {exc : Nat → Value} {WX : WXn}
theorem tru_vw {K : PySem.W.Frag} {W : Wd} {H : Hp} {u : PV} {x : V} {k : Bool} (h : Vw K W H u x) (e : truth u = some k) : L2.TruV K x H k := by
  cases u with
  | non => simp only [Vw, RepV] at h; subst h; cases e; rfl
  | bl b => simp only [Vw, RepV] at h; subst h; cases e; rfl
  | int b => simp only [Vw, RepV] at h; subst h; cases e; rfl
  | str y =>
    simp only [Vw, RepV] at h
    obtain ⟨rfl, _⟩ := h
    simp only [truth] at e
    split at e
    · rename_i hl
      cases e
      refine ⟨by rw [txt_length]; exact lim_size hl, ?_⟩
      rw [txt_length]
      cases y <;> simp
      omega
    · cases e
  | tup xs =>
    obtain ⟨a, vs, rfl, t, r⟩ := h
    cases e
    refine .inr (.inl ⟨vs, t, ?_⟩)
    have := r.nil_iff
    cases xs <;> cases vs <;> simp at this ⊢
  | lst xs =>
    obtain ⟨a, vs, rfl, t, r⟩ := h
    cases e
    refine .inl ⟨vs, .inl t, ?_⟩
    have := r.nil_iff
    cases xs <;> cases vs <;> simp at this ⊢
  | dct _ => cases e
  | obj _ => cases e
/-- an expression that isTrue asks by its value -/
def byVal : PySem.Expr → Bool
  | .UnaryOp op _ _ => match op with
    | .Not => false
    | _ => true
  | .BoolOp _ _ _ => false
  | .IfExp _ _ _ _ => false
  | .Compare _ _ _ _ => false
  | _ => true
theorem byVal_eq {e : PySem.Expr} {env : PySem.Env} (h : byVal e = true) : ∀ whole, PySem.isTrue e env whole = (do let v ← whole; PySem.standAt e.pos; PySem.holding [v] (PySem.truthy v)) := by
  intro whole
  cases e with
  | UnaryOp op _ _ => cases op <;> first | rfl | cases h
  | BoolOp _ _ _ => cases h
  | IfExp _ _ _ _ => cases h
  | Compare _ _ _ _ => cases h
  | _ => rfl
theorem t_val {a : CE} {e : PySem.Expr} (hv : byVal e = true) (h : PEe X T WX e (simpE a) (evE G Φ a)) : PTe X T WX e false (evT G Φ (.e a)) := by
  refine pt_imp (L2.pt_truth h (byVal_eq hv)) fun σ H Q h => ?_
  obtain ⟨W, S, r, A, F, a0, q⟩ := h
  refine ⟨W, S, r, A, F, a0, ?_⟩
  simp only [evT] at q
  cases c : evE G Φ a r S with
  | bad => rw [c] at q; exact q.elim
  | exc x S' => rw [c] at q; exact fun W' H' g' f' ok => q W' H' g' (fun a o e z => f' a o e (z.imp id no_t)) ok
  | ok v m S1 =>
    rw [c] at q
    simp only [Res.bindT_ok] at q
    intro W1 H1 x g1 f1 hx ok1
    cases ht : truth (view S1 v) with
    | none => rw [ht] at q; exact q.elim
    | some k =>
      rw [ht] at q
      exact ⟨k, tru_vw (hx.vw ⟨_, ok1⟩) ht, q W1 H1 g1 (fun a o e z => f1 a o e (z.imp id no_t)) ok1.drop⟩
abbrev PWe (X : L2.Cx) (T : Tb) (WX : WXn) (e : PySem.Expr) (ev : Env → Sto → TRes) : Prop := L2.PW X e (TIt X.K T WX false ev)
theorem tit_step {K : PySem.W.Frag} {W W1 : Wd} {H H1 : Hp} {F : List Addr} {σ : L2.St} {Q : Bool → Hp → Prop} {R : TRes} {S S1 : Sto} {r : Env} {A : List Addr} {ev : Env → Sto → TRes} (a0 : At K T W S r A F σ H) (g1 : Grow W H W1 H1) (f1 : Fr H H1 F false) (ok1 : Ok K T W1 H1 S1 F)
    (q : match ev r S1 with
      | .ok b S' => ∀ W' H', Grow W H W' H' → Fr H H' F false → Ok K T W' H' S' F → Q b H'
      | .exc c S' => ∀ W' H', Grow W H W' H' → Fr H H' F false → Ok K T W' H' S' F → WX c σ H'
      | .bad => False) : TIt K T WX false ev σ H1 Q := by
  refine ⟨W1, S1, r, A, F, a0.same g1 f1 ok1, ?_⟩
  cases c : ev r S1 with
  | bad => rw [c] at q; exact q
  | exc x S' => rw [c] at q; exact fun W' H' g' f' ok => q W' H' (g1.trans g') (fun a o e z => f' a o (f1 a o e z) z) ok
  | ok b S' => rw [c] at q; exact fun W' H' g' f' ok => q W' H' (g1.trans g') (fun a o e z => f' a o (f1 a o e z) z) ok
theorem w_and {a b : CT} {ea eb : PySem.Expr} {rest : List PySem.Expr} {pos : PySem.Pos} (ha : PTe X T WX ea false (evT G Φ a)) (hb : PWe X T WX (.BoolOp .And (eb :: rest) pos) (evT G Φ b)) : PWe X T WX (.BoolOp .And (ea :: eb :: rest) pos) (evT G Φ (.and a b)) := by
  refine pw_imp (L2.pw_and ha hb) fun σ H Q h => ?_
  obtain ⟨W, S, r, A, F, a0, q⟩ := h
  refine ⟨W, S, r, A, F, a0, ?_⟩
  simp only [evT] at q
  cases c : evT G Φ a r S with
  | bad => rw [c] at q; exact q.elim
  | exc x S' => rw [c] at q; exact q
  | ok k S1 =>
    rw [c] at q
    simp only [TRes.bindT_ok] at q
    intro W1 H1 g1 f1 ok1
    cases k with
    | true =>
      rw [if_pos rfl] at q ⊢
      exact tit_step (R := .bad) a0 g1 f1 ok1 q
    | false =>
      rw [if_neg Bool.false_ne_true] at q ⊢
      exact q W1 H1 g1 f1 ok1
theorem w_or {a b : CT} {ea eb : PySem.Expr} {rest : List PySem.Expr} {pos : PySem.Pos} (ha : PTe X T WX ea false (evT G Φ a)) (hb : PWe X T WX (.BoolOp .Or (eb :: rest) pos) (evT G Φ b)) : PWe X T WX (.BoolOp .Or (ea :: eb :: rest) pos) (evT G Φ (.or a b)) := by
  refine pw_imp (L2.pw_or ha hb) fun σ H Q h => ?_
  obtain ⟨W, S, r, A, F, a0, q⟩ := h
  refine ⟨W, S, r, A, F, a0, ?_⟩
  simp only [evT] at q
  cases c : evT G Φ a r S with
  | bad => rw [c] at q; exact q.elim
  | exc x S' => rw [c] at q; exact q
  | ok k S1 =>
    rw [c] at q
    simp only [TRes.bindT_ok] at q
    intro W1 H1 g1 f1 ok1
    cases k with
    | true =>
      rw [if_pos rfl] at q ⊢
      exact q W1 H1 g1 f1 ok1
    | false =>
      rw [if_neg Bool.false_ne_true] at q ⊢
      exact tit_step (R := .bad) a0 g1 f1 ok1 q
theorem pw_of {op : PySem.BoolOp} {vs : List PySem.Expr} {pos : PySem.Pos} {t : L2.TT} (h : L2.PT X (.BoolOp op vs pos) t) : L2.PW X (.BoolOp op vs pos) t := ⟨fun _ pins s σ H Q I hw => h.run pins s σ H Q I hw⟩
theorem t_not {a : CT} {ea : PySem.Expr} {pos : PySem.Pos} (ha : PTe X T WX ea false (evT G Φ a)) : PTe X T WX (.UnaryOp .Not ea pos) false (evT G Φ (.not a)) := by
  refine pt_imp (L2.pt_not ha) fun σ H Q h => ?_
  obtain ⟨W, S, r, A, F, a0, q⟩ := h
  refine ⟨W, S, r, A, F, a0, ?_⟩
  simp only [evT] at q
  cases c : evT G Φ a r S with
  | bad => rw [c] at q; exact q.elim
  | exc x S' => rw [c] at q; exact q
  | ok k S1 =>
    rw [c] at q
    simp only [TRes.bindT_ok] at q
    exact fun W1 H1 g1 f1 ok1 => q W1 H1 g1 f1 ok1
theorem pt_ite {X : L2.Cx} {c a b : PySem.Expr} {pos : PySem.Pos} {tc ta tb : L2.TT} (hc : L2.PT X c tc) (ha : L2.PT X a ta) (hb : L2.PT X b tb) : L2.PT X (.IfExp c a b pos) (fun σ H Q => tc σ H fun k H1 => if k = true then ta σ H1 Q else tb σ H1 Q) := by
  refine ⟨fun pins s σ H Q I h => ?_⟩
  rw [PySem.arm_isTrue_IfExp]
  refine PySem.wpAny_bind (L2.thn (hc.run pins s σ H _ I h) fun d s1 ⟨H1, I1, q1⟩ => ?_)
  cases d with
  | true => exact ha.run pins s1 σ H1 Q I1 q1
  | false => exact hb.run pins s1 σ H1 Q I1 q1
theorem t_ite {c a b : CT} {ec ea eb : PySem.Expr} {pos : PySem.Pos} (hc : PTe X T WX ec false (evT G Φ c)) (ha : PTe X T WX ea false (evT G Φ a)) (hb : PTe X T WX eb false (evT G Φ b)) : PTe X T WX (.IfExp ec ea eb pos) false (evT G Φ (.ite c a b)) := by
  refine pt_imp (pt_ite hc ha hb) fun σ H Q h => ?_
  obtain ⟨W, S, r, A, F, a0, q⟩ := h
  refine ⟨W, S, r, A, F, a0, ?_⟩
  simp only [evT] at q
  cases c1 : evT G Φ c r S with
  | bad => rw [c1] at q; exact q.elim
  | exc x S' => rw [c1] at q; exact q
  | ok k S1 =>
    rw [c1] at q
    simp only [TRes.bindT_ok] at q
    intro W1 H1 g1 f1 ok1
    cases k with
    | true =>
      rw [if_pos rfl] at q ⊢
      exact tit_step (R := .bad) a0 g1 f1 ok1 q
    | false =>
      rw [if_neg Bool.false_ne_true] at q ⊢
      exact tit_step (R := .bad) a0 g1 f1 ok1 q
/-! ### built-ins called -/
theorem rcn_of {es : CEs} {b : Bi} (σ : L2.St) (H : Hp) (Q : L2.VK) (h : TIe X.K T WX false (evE G Φ (.bi b es)) σ H Q) : TIa X.K T WX (evA G Φ es) σ H fun vs H1 => RCn X.K T (bi b) vs H1 Q := by
  obtain ⟨W, S, r, A, F, a0, q⟩ := h
  refine ⟨W, S, r, A, F, a0, ?_⟩
  simp only [evE] at q
  cases c1 : evA G Φ es r S with
  | bad => rw [c1] at q; exact q.elim
  | exc c S' => rw [c1] at q; exact q
  | ok vs S1 =>
    rw [c1] at q
    simp only [Ress.bind_ok] at q
    intro W1 H1 xs B g1 f1 hx ok1
    obtain ⟨v, m', e, hf, q⟩ := ofO_ok (KE X.K T W H F false WX σ Q) (fun z => z) q
    refine ⟨W1, S1, B ++ F, _, v, m', vws_of (B := B) ⟨_, ok1⟩ (evA_un es r S vs S1 c1) hx, ok1, e, hf, fun W' H' z g' f' hz ok' => ?_⟩
    exact q W' H' z (g1.trans g') (fun a o e hh => f' a o (f1 a o e hh) (.inr rfl)) (hz.fin hf) ok'.mid
theorem e_biB (C : Ctx X T G Φ g sc N exc WX) {b : Bi} {x : Str} {id : String} {es : CEs} {pe : PySem.Expr} {pes : List PySem.Expr} {p pos : PySem.Pos} (hc : L2.CallR X (.builtin id) (RCn X.K T (bi b))) (hv : PySem.bootBuiltins x = some (.builtin id)) (hx : x ∈ g.blt) (hn : x ≠ "__name__") (hd : (x == ("__debug__" : Str)) = false)
    (hg : glB sc x = true) (hst : noStars (pe :: pes) = true) (h : PAe X T WX (pe :: pes) (evA G Φ es)) : PEe X T WX (.Call (.Name x p) (pe :: pes) [] pos) false (evE G Φ (.bi b es)) := by
  have h1 := hst
  simp only [noStars, Bool.and_eq_true] at h1
  exact pe_imp (L2.pe_callB hc (gl_of C hg) (C.blt x hx) hv h hn hd (star_of h1.1) (plainA h1.2)) fun σ H Q q => rcn_of σ H Q q
theorem e_biT (C : Ctx X T G Φ g sc N exc WX) {b : Bi} {x : Str} {id : String} {es : CEs} {pe : PySem.Expr} {pes : List PySem.Expr} {p pos : PySem.Pos} (hc : L2.CallR X (.type id) (RCn X.K T (bi b))) (hv : PySem.bootBuiltins x = some (.type id)) (hx : x ∈ g.blt) (hn : x ≠ "__name__") (hd : (x == ("__debug__" : Str)) = false)
    (hg : glB sc x = true) (hst : noStars (pe :: pes) = true) (h : PAe X T WX (pe :: pes) (evA G Φ es)) : PEe X T WX (.Call (.Name x p) (pe :: pes) [] pos) false (evE G Φ (.bi b es)) := by
  have h1 := hst
  simp only [noStars, Bool.and_eq_true] at h1
  exact pe_imp (L2.pe_callTy hc (gl_of C hg) (C.blt x hx) hv h hn hd (star_of h1.1) (plainA h1.2)) fun σ H Q q => rcn_of σ H Q q
theorem ta_cons {e : CE} {es : CEs} (σ : L2.St) (H : Hp) (Q : List V → Hp → Prop) (h : TIa X.K T WX (evA G Φ (.cons e es)) σ H Q) : TIe X.K T WX (simpE e) (evE G Φ e) σ H fun x H1 => TIa X.K T WX (evA G Φ es) σ H1 fun xs H2 => Q (x :: xs) H2 := by
  obtain ⟨W, S, r, A, F, a0, q⟩ := h
  refine ⟨W, S, r, A, F, a0, ?_⟩
  simp only [evA] at q
  cases c1 : evE G Φ e r S with
  | bad => rw [c1] at q; exact q.elim
  | exc c S' => rw [c1] at q; exact fun W' H' g' f' ok => q W' H' g' (fun a o e z => f' a o e (z.imp id no_t)) ok
  | ok v m S1 =>
    rw [c1] at q
    simp only [Res.bindA_ok] at q
    intro W1 H1 x g1 f1 hx ok1
    refine ⟨W1, S1, r, A, _, a0.next g1 f1 ok1, ?_⟩
    have w1 : Fr H H1 F false := fun a o e z => f1 a o e (z.imp id no_t)
    cases c2 : evA G Φ es r S1 with
    | bad => rw [c2] at q; exact q.elim
    | exc c S' =>
      rw [c2] at q
      exact fun W' H' g' f' ok => q W' H' (g1.trans g') (w1.trans f' id id) ok.drop
    | ok vs S2 =>
      rw [c2] at q
      simp only [Ress.bindA_ok] at q
      intro W2 H2 xs B g2 f2 hxs ok2
      cases m with
      | sh =>
        refine q W2 H2 (x :: xs) B (g1.trans g2) (w1.trans f2 id id) ?_ ok2
        exact ⟨some x, _, [], B, rfl, rfl, ⟨rfl, x, rfl, RepV.grow g2 _ _ hx⟩, hxs⟩
      | own =>
        obtain ⟨a, rfl, ow⟩ := hx
        obtain ⟨o, e⟩ := ow.some
        refine q W2 H2 (.ref a :: xs) ([a] ++ B) (g1.trans g2) (w1.trans f2 id id) ⟨_, _, [a], B, rfl, rfl, ⟨a, rfl, rfl, ow.grow g2 (by rw [e, f2 a o e (.inl (by simp [ownA]))])⟩, hxs⟩ ?_
        refine ok2.perm ?_
        show (B ++ ([a] ++ F)).Perm (([a] ++ B) ++ F)
        rw [← List.append_assoc]
        exact List.perm_append_comm.append_right F
      | bor => exact q.elim
      | brf => exact q.elim
theorem ta_nil (σ : L2.St) (H : Hp) (Q : List V → Hp → Prop) (h : TIa X.K T WX (evA G Φ .nil) σ H Q) : Q [] H := by
  obtain ⟨W, S, r, A, F, a0, q⟩ := h
  exact q W H [] [] (Grow.refl _ _) (Fr.refl _ _ _) ⟨rfl, rfl⟩ a0.ok
theorem reps_range {K : PySem.W.Frag} {W : Wd} {H : Hp} {i : Int} : ∀ n : List Nat, RepVs K W H (n.map fun (k : Nat) => PV.int (i + k)) (n.map fun (k : Nat) => V.int (i + k))
  | [] => by simp [RepVs]
  | n :: ns => by simp only [List.map_cons, RepVs]; exact ⟨_, _, rfl, by simp only [RepV], reps_range ns⟩
theorem e_lr2 (C : Ctx X T G Φ g sc N exc WX) {a b : CE} {pa pb : PySem.Expr} {p p1 pos pos1 : PySem.Pos} (hl : ("list" : Str) ∈ g.blt) (hr : ("range" : Str) ∈ g.blt) (gl : glB sc "list" = true) (gr : glB sc "range" = true) (na : noStar pa = true) (nb : noStar pb = true)
    (ha : PEe X T WX pa (simpE a) (evE G Φ a)) (hb : PEe X T WX pb (simpE b) (evE G Φ b)) : PEe X T WX (.Call (.Name "list" p) [.Call (.Name "range" p1) [pa, pb] [] pos1] [] pos) false (evE G Φ (.bi .rng2 (.cons a (.cons b .nil)))) := by
  refine pe_imp (L2.pe_listRg C.calm (gl_of C gl) (C.blt _ hl) (L2.prg_2 (gl_of C gr) (C.blt _ hr) ha hb (star_of na) (star_of nb) (plainA (by simp [noStars, nb])))) fun σ H Q h => ?_
  refine tie_mono (fun x H1 t => tie_mono (fun y H2 t => ?_) (ta_cons σ H1 _ t)) (ta_cons σ H _ (rcn_of σ H Q h))
  obtain ⟨W, S, F, us, v, m, hv, ok, e, hf, q⟩ := ta_nil σ H2 _ t
  unfold bi at e
  split at e
  all_goals try cases ‹Bi.rng2 = _›
  · split at e
    · rename_i hj
      cases e
      obtain ⟨x, t, e1, h1, y, t2, e2, h2, e3⟩ := hv
      cases e1
      cases e2
      simp only [Vw, RepV] at h1 h2
      subst h1 h2
      refine ⟨_, _, rfl, rfl, ⟨hj.1, hj.2.2.1, hj.2.2.2.1, hj.2.1, by omega⟩, fun p np => fin_lst ok np (reps_range _) q⟩
    · cases e
  · cases e
theorem e_lr1 (C : Ctx X T G Φ g sc N exc WX) {a : CE} {pa : PySem.Expr} {p p1 pos pos1 : PySem.Pos} (hl : ("list" : Str) ∈ g.blt) (hr : ("range" : Str) ∈ g.blt) (gl : glB sc "list" = true) (gr : glB sc "range" = true) (na : noStar pa = true)
    (ha : PEe X T WX pa (simpE a) (evE G Φ a)) : PEe X T WX (.Call (.Name "list" p) [.Call (.Name "range" p1) [pa] [] pos1] [] pos) false (evE G Φ (.bi .rng1 (.cons a .nil))) := by
  refine pe_imp (L2.pe_listRg C.calm (gl_of C gl) (C.blt _ hl) (L2.prg_1 (gl_of C gr) (C.blt _ hr) ha (by rw [star_of na]))) fun σ H Q h => ?_
  refine tie_mono (fun x H1 t => ?_) (ta_cons σ H _ (rcn_of σ H Q h))
  obtain ⟨W, S, F, us, v, m, hv, ok, e, hf, q⟩ := ta_nil σ H1 _ t
  unfold bi at e
  split at e
  all_goals try cases ‹Bi.rng1 = _›
  · split at e
    · rename_i hj
      cases e
      obtain ⟨x, t, e1, h1, e3⟩ := hv
      cases e1
      simp only [Vw, RepV] at h1
      subst h1
      refine ⟨_, rfl, ⟨by decide, by decide, hj.1, by omega, by omega⟩, fun p np => ?_⟩
      have e : ∀ j : Int, L2.rgV 0 j = (List.range j.toNat).map fun (k : Nat) => V.int (0 + k) := fun j => by
        unfold L2.rgV
        rw [Int.sub_zero]
      rw [e]
      exact fin_lst ok np (reps_range _) q
    · cases e
  · cases e
end
/-! ### all expressions -/
def cmpOf : PySem.CmpOp → Option COp
  | .Eq => some .eq
  | .NotEq => some .ne
  | .Lt => some .lt
  | .LtE => some .le
  | .Gt => some .gt
  | .GtE => some .ge
  | .Is => some .isN
  | .IsNot => some .notN
  | .In => some .inn
  | .NotIn => some .nin
def sameO (a b : PySem.Operator) : Bool := decide (a = b)
def sameC (a b : PySem.CmpOp) : Bool := decide (a = b)
def litB : PV → PySem.Const → Bool
  | .non, c => match c with
    | .none => true
    | _ => false
  | .bl b, c => match c with
    | .bool b' => b == b'
    | _ => false
  | .int b, c => match c with
    | .int b' => b == b'
    | _ => false
  | .str b, c => match c with
    | .str b' => decide (b' = txt b) && b.all fun c => decide (c < 128)
    | _ => false
  | _, _ => false
/-- a built-in's name -/
def biN : Bi → Option Str
  | .len => some "len"
  | .min2 => some "min"
  | .max2 => some "max"
  | .minL => some "min"
  | .maxL => some "max"
  | .sum => some "sum"
  | .int => some "int"
  | .list => some "list"
  | .all => some "all"
  | .any => some "any"
  | .sorted => some "sorted"
  | .dict => some "dict"
  | _ => none
def isRng : Bi → Bool
  | .rng1 => true
  | .rng2 => true
  | _ => false
def has (l : List Str) (x : Str) : Bool := l.any fun y => decide (y = x)
theorem has_mem {l : List Str} {x : Str} (h : has l x = true) : x ∈ l := by
  unfold has at h
  rw [List.any_eq_true] at h
  obtain ⟨y, h1, h2⟩ := h
  rw [← of_decide_eq_true h2]
  exact h1
def isTupE : PySem.Expr → Bool
  | .Tuple _ _ _ => true
  | _ => false
/-- keys that are written texts -/
def ckK : List Ky → List (Option PySem.Expr) → Bool
  | [], [] => true
  | .str x :: ks, some (.Constant (.str s) _ _) :: es => decide (s = txt x) && (x.all fun c => decide (c < 128)) && ckK ks es
  | _, _ => false
def names2 (own : List (Str × Nat)) (t : Tg) : Bool := decide (own.map (·.2) = tgS t)
mutual
def ckE (g : Sg) (N : List Str) : CE → PySem.Scope → PySem.Expr → Bool
  | .lit v, _, e => match e with
    | .Constant c _ _ => litB v c
    | _ => false
  | .var i, sc, e => match e with
    | .Name x _ => decide (N[i]? = some x) && visB sc x && plain x
    | _ => false
  | .glob i, sc, e => match e with
    | .Name x _ => decide (g.con i = some x) && glB sc x
    | _ => false
  | .bin op a b, sc, e => match e with
    | .BinOp l o r _ => sameO o (opA op) && ckE g N a sc l && ckE g N b sc r
    | _ => false
  | .neg a, sc, e => match e with
    | .UnaryOp o x _ => decide (o = .USub) && ckE g N a sc x
    | _ => false
  | .cmp op a b, sc, e => match e with
    | .Compare l [o] [r] _ => sameC o (opC op) && noSet r && ckE g N a sc l && ckE g N b sc r
    | _ => false
  | .chn3 o1 o2 o3 a b c d, sc, e => match e with
    | .Compare l [p, q, u] [x, y, z] _ => sameC p (opC o1) && sameC q (opC o2) && sameC u (opC o3) && noSet z && ckE g N a sc l && ckE g N b sc x && ckE g N c sc y && ckE g N d sc z
    | _ => false
  | .chn o1 o2 a b c, sc, e => match e with
    | .Compare l [p, q] [x, y] _ => sameC p (opC o1) && sameC q (opC o2) && noSet y && ckE g N a sc l && ckE g N b sc x && ckE g N c sc y
    | _ => false
  | .and a b, sc, e => match e with
    | .BoolOp o (x :: y :: r) pos => decide (o = .And) && ckE g N a sc x && (match r with
      | [] => ckE g N b sc y
      | z :: r => ckE g N b sc (.BoolOp .And (y :: z :: r) pos))
    | _ => false
  | .or a b, sc, e => match e with
    | .BoolOp o (x :: y :: r) pos => decide (o = .Or) && ckE g N a sc x && (match r with
      | [] => ckE g N b sc y
      | z :: r => ckE g N b sc (.BoolOp .Or (y :: z :: r) pos))
    | _ => false
  | .not a, sc, e => match e with
    | .UnaryOp o x _ => decide (o = .Not) && ckE g N a sc x
    | _ => false
  | .ite c a b, sc, e => match e with
    | .IfExp t x y _ => ckC g N c sc t && ckE g N a sc x && ckE g N b sc y
    | _ => false
  | .tup es, sc, e => match e with
    | .Tuple xs _ _ => decide (es.len ≤ 1000) && ckA g N es sc xs
    | _ => false
  | .lst es, sc, e => match e with
    | .List xs _ => decide (es.len ≤ 1000) && ckA g N es sc xs
    | _ => false
  | .dnw, _, e => match e with
    | .Dict [] [] _ => true
    | _ => false
  | .dsp ks es, sc, e => match e with
    | .Dict kx vs _ => ckK ks kx && decide (0 < ks.length) && decide (ks.length ≤ 15) && decide (ks.length = es.len) && decide (kx.length = vs.length) && decide (kx.length = ks.length) && kx.all (·.isSome) && ckA g N es sc vs
    | _ => false
  | .sub a b, sc, e => match e with
    | .Subscript x i _ => noSlice i && ckE g N a sc x && ckE g N b sc i
    | _ => false
  | .isi t a, sc, e => match e with
    | .Call (.Name x _) [y, .Name z _] [] _ => decide (x = "isinstance") && decide (z = tyN t) && has g.blt "isinstance" && glB sc "isinstance" && has g.blt (tyN t) && glB sc (tyN t) && noStar y && ckE g N a sc y
    | _ => false
  | .gsub t k, sc, e => match e with
    | .Subscript (.Name x _) i _ => decide (g.tab t = some x) && glB sc x && noSlice i && ckE g N k sc i
    | _ => false
  | .fld f a, sc, e => match e with
    | .Attribute y x _ => decide (g.flds[f]? = some x) && notSuper y && ckE g N a sc y
    | _ => false
  | .mvf f a, sc, e => match e with
    | .Attribute y x _ => decide (g.flds[f]? = some x) && notSuper y && ckE g N a sc y
    | _ => false
  | .shf f a, sc, e => match e with
    | .Attribute y x _ => decide (g.flds[f]? = some x) && notSuper y && ckE g N a sc y
    | _ => false
  | .count a b, sc, e => match e with
    | .Call (.Attribute y x ap) [z] [] p => decide (x = "count") && notSuper y && (ap.endLine == p.line) && noStar z && ckE g N a sc y && ckE g N b sc z
    | _ => false
  | .index a b, sc, e => match e with
    | .Call (.Attribute y x ap) [z] [] p => decide (x = "index") && notSuper y && (ap.endLine == p.line) && noStar z && ckE g N a sc y && ckE g N b sc z
    | _ => false
  | .meth m a es, sc, e => match e with
    | .Call (.Attribute y x ap) xs [] p => decide (g.mts m = some x) && notSuper y && (ap.endLine == p.line) && noStars xs && decide (xs.length < 20) && ckE g N a sc y && ckA g N es sc xs
    | _ => false
  | .make c es, sc, e => match e with
    | .Call (.Name x _) (y :: ys) [] _ => decide (g.cls c = some x) && glB sc x && noStars (y :: ys) && ckA g N es sc (y :: ys)
    | _ => false
  | .bi1 b a, sc, e => match e with
    | .Call (.Name x _) [y] [] _ => decide (biN b = some x) && has g.blt x && glB sc x && noStar y && ckE g N a sc y
    | _ => false
  | .get1 a b, sc, e => match e with
    | .Call (.Attribute y x ap) [z] [] p => decide (x = "get") && notSuper y && (ap.endLine == p.line) && noStar z && ckE g N a sc y && ckE g N b sc z
    | _ => false
  | .get2 a b c, sc, e => match e with
    | .Call (.Attribute y x ap) [z, w] [] p => decide (x = "get") && notSuper y && (ap.endLine == p.line) && noStar z && noStar w && ckE g N a sc y && ckE g N b sc z && ckE g N c sc w
    | _ => false
  | .slcL a b, sc, e => match e with
    | .Subscript x (.Slice (some i) none none _) _ => ckE g N a sc x && ckE g N b sc i
    | _ => false
  | .slcB a b c, sc, e => match e with
    | .Subscript x (.Slice (some i) (some j) none _) _ => ckE g N a sc x && ckE g N b sc i && ckE g N c sc j
    | _ => false
  | .slcU a b, sc, e => match e with
    | .Subscript x (.Slice none (some i) none _) _ => ckE g N a sc x && ckE g N b sc i
    | _ => false
  | .call f es, sc, e => match e with
    | .Call (.Name x _) (y :: ys) [] _ => decide (g.fns f = some x) && glB sc x && noStars (y :: ys) && ckA g N es sc (y :: ys)
    | _ => false
  | .bi b es, sc, e => match es with
    | .cons a .nil => match b, e with
      | .sset, .Call (.Name l _) [.Call (.Name r _) [x] [] _] [] _ => decide (l = "sorted") && decide (r = "set") && has g.blt "sorted" && has g.blt "set" && glB sc "sorted" && glB sc "set" && noStar x && ckE g N a sc x
      | .tuple, .Call (.Name l _) [x] [] _ => decide (l = "tuple") && has g.blt "tuple" && glB sc "tuple" && noStar x && ckE g N a sc x
      | .rng1, .Call (.Name l _) [.Call (.Name r _) [x] [] _] [] _ => decide (l = "list") && decide (r = "range") && has g.blt "list" && has g.blt "range" && glB sc "list" && glB sc "range" && noStar x && ckE g N a sc x
      | _, .Call (.Name x _) [y] [] _ => decide (biN b = some x) && has g.blt x && glB sc x && noStar y && ckE g N a sc y
      | _, _ => false
    | .cons a (.cons c .nil) => match b, e with
      | .rng2, .Call (.Name l _) [.Call (.Name r _) [x, y] [] _] [] _ => decide (l = "list") && decide (r = "range") && has g.blt "list" && has g.blt "range" && glB sc "list" && glB sc "range" && noStar x && noStar y && ckE g N a sc x && ckE g N c sc y
      | _, .Call (.Name x _) [y, z] [] _ => decide (biN b = some x) && has g.blt x && glB sc x && noStar y && noStar z && ckE g N a sc y && ckE g N c sc z
      | _, _ => false
    | _ => false
  | .lc elt t it, sc, e => match e with
    | .ListComp el [⟨tg, iter, [], 0⟩] scope _ => L2.blkC N sc scope (ownOf N t) && names2 (ownOf N t) t && ckT scope N t tg && noSet iter && ckI g N it sc tg iter && ckE g N elt scope el
    | _ => false
  | .lcf elt t it c, sc, e => match e with
    | .ListComp el [⟨tg, iter, [i], 0⟩] scope _ => L2.blkC N sc scope (ownOf N t) && names2 (ownOf N t) t && ckT scope N t tg && noSet iter && ckI g N it sc tg iter && ckC g N c scope i && ckE g N elt scope el
    | _ => false
  | _, _, _ => false
def ckA (g : Sg) (N : List Str) : CEs → PySem.Scope → List PySem.Expr → Bool
  | .nil, _, es => match es with
    | [] => true
    | _ => false
  | .cons e r, sc, es => match es with
    | x :: xs => noStar x && ckE g N e sc x && ckA g N r sc xs
    | [] => false
def ckC (g : Sg) (N : List Str) : CT → PySem.Scope → PySem.Expr → Bool
  | .chn3 o1 o2 o3 a b c d, sc, e => match e with
    | .Compare l [p, q, u] [x, y, z] _ => sameC p (opC o1) && sameC q (opC o2) && sameC u (opC o3) && noSet z && ckE g N a sc l && ckE g N b sc x && ckE g N c sc y && ckE g N d sc z
    | _ => false
  | .chn o1 o2 a b c, sc, e => match e with
    | .Compare l [p, q] [x, y] _ => sameC p (opC o1) && sameC q (opC o2) && noSet y && ckE g N a sc l && ckE g N b sc x && ckE g N c sc y
    | _ => false
  | .e a, sc, e => byVal e && ckE g N a sc e
  | .cm op a b, sc, e => match e with
    | .Compare l [o] [r] _ => sameC o (opC op) && noSet r && ckE g N a sc l && ckE g N b sc r
    | _ => false
  | .and a b, sc, e => match e with
    | .BoolOp o (x :: y :: r) pos => decide (o = .And) && ckC g N a sc x && (match r with
      | [] => ckC g N b sc y
      | z :: r => ckC g N b sc (.BoolOp .And (y :: z :: r) pos))
    | _ => false
  | .or a b, sc, e => match e with
    | .BoolOp o (x :: y :: r) pos => decide (o = .Or) && ckC g N a sc x && (match r with
      | [] => ckC g N b sc y
      | z :: r => ckC g N b sc (.BoolOp .Or (y :: z :: r) pos))
    | _ => false
  | .not a, sc, e => match e with
    | .UnaryOp o x _ => decide (o = .Not) && ckC g N a sc x
    | _ => false
  | .ite c a b, sc, e => match e with
    | .IfExp x y z _ => ckC g N c sc x && ckC g N a sc y && ckC g N b sc z
    | _ => false
def ckI (g : Sg) (N : List Str) : CI → PySem.Scope → PySem.Expr → PySem.Expr → Bool
  | .seq a, sc, _, e => ckE g N a sc e
  | .enum a, sc, tg, e => isTupE tg && match e with
    | .Call (.Name r _) [x] [] _ => decide (r = "enumerate") && has g.blt "enumerate" && glB sc "enumerate" && noStar x && ckE g N a sc x
    | _ => false
  | .zip a b, sc, tg, e => isTupE tg && match e with
    | .Call (.Name r _) [x, y] [] _ => decide (r = "zip") && has g.blt "zip" && glB sc "zip" && noStar x && noStar y && ckE g N a sc x && ckE g N b sc y
    | _ => false
  | .rng1 a, sc, _, e => match e with
    | .Call (.Name r _) [x] [] _ => decide (r = "range") && has g.blt "range" && glB sc "range" && noStar x && ckE g N a sc x
    | _ => false
  | .rng2 a b, sc, _, e => match e with
    | .Call (.Name r _) [x, y] [] _ => decide (r = "range") && has g.blt "range" && glB sc "range" && noStar x && noStar y && ckE g N a sc x && ckE g N b sc y
    | _ => false
end
end SR

set_option linter.unusedVariables false
set_option maxRecDepth 100000
set_option maxHeartbeats 0
/-! sorted(set(..)). -/
namespace SR
open PySem (Addr Str Value PyData Heap)
open L2 (V Hp HO Key upd Rd SqL SqT)
theorem ll_anti : ∀ a b : List Int, LL a b = false → LL b a = false → a = b
  | [], [], _, _ => rfl
  | [], _ :: _, h, _ => by cases h
  | _ :: _, [], _, h => by cases h
  | x :: a, y :: b, h1, h2 => by
    rw [ll_cons] at h1 h2
    by_cases e : x = y
    · rw [if_pos e] at h1
      rw [if_pos e.symm] at h2
      rw [e, ll_anti a b h1 h2]
    · rw [if_neg e] at h1
      rw [if_neg (Ne.symm e)] at h2
      have g1 := of_decide_eq_false h1
      have g2 := of_decide_eq_false h2
      omega
theorem perm_stb {l m : List (List Int)} (p : l.Perm m) : SrtO.Stb LL l m := by
  refine ⟨p, fun x => ?_⟩
  have q := p.filter (SrtO.eqv LL x)
  have one : ∀ n : List (List Int), n.filter (SrtO.eqv LL x) = List.replicate (n.filter (SrtO.eqv LL x)).length x := fun n => by
    refine List.eq_replicate_iff.mpr ⟨rfl, fun y hy => ?_⟩
    obtain ⟨a, b⟩ := SrtO.eqv_iff.mp (List.mem_filter.mp hy).2
    exact ll_anti y x b a
  rw [one l, one m, q.length_eq]
theorem ll_swo0 : SrtO.Swo LL := ll_swo (α := List Int) id
theorem mem_dedup {α : Type} [DecidableEq α] {a : α} : ∀ {l : List α}, a ∈ dedup l ↔ a ∈ l
  | [] => Iff.rfl
  | x :: l => by
    unfold dedup
    split
    · rename_i h
      rw [mem_dedup, List.mem_cons]
      exact ⟨.inr, fun z => z.elim (fun e => e ▸ h) id⟩
    · rw [List.mem_cons, List.mem_cons, mem_dedup]
theorem nodup_dedup {α : Type} [DecidableEq α] : ∀ l : List α, (dedup l).Nodup
  | [] => List.nodup_nil
  | x :: l => by
    unfold dedup
    split
    · exact nodup_dedup l
    · rename_i h
      exact List.nodup_cons.mpr ⟨fun z => h (mem_dedup.mp z), nodup_dedup l⟩
/-- the one list that is sorted, has no two the same, and has these -/
theorem sset_uniq {out rows : List (List Int)} (nd : out.Nodup) (mem : ∀ k, k ∈ out ↔ k ∈ rows) (srt : SrtO.Srtd LL out) : out = sortBy leI (dedup rows) := by
  have p : out.Perm (dedup rows) := (List.perm_ext_iff_of_nodup nd (nodup_dedup rows)).mpr fun k => (mem k).trans mem_dedup.symm
  have z := srt_uniq ll_swo0 srt (perm_stb p)
  rw [z]
  refine sort_congr _ fun a _ b _ => ?_
  rw [leI_ll]
section
variable {X : L2.Cx} {T : Tb} {G : Prg} {Φ : Phi} {g : Sg} {sc : PySem.Scope} {N : List Str} {exc : Nat → Value} {WX : WXn}
def keyPV : PV → Key
  | .int i => .inl i
  | .str x => .inr (txt x)
  | _ => .inl 0
theorem keys_of {K : PySem.W.Frag} {W : Wd} {H : Hp} {kd : Nat} (h1 : kd ≤ 1) : ∀ {xs : List PV} {vs : List V}, RepVs K W H xs vs → (∀ x ∈ xs, sKey x = some (kd, rowOf x)) →
    vs = (xs.map keyPV).map L2.kV ∧ (∀ k ∈ xs.map keyPV, kdK k = kd) ∧ (xs.map keyPV).map rowK = xs.map rowOf ∧ ∀ k ∈ xs.map keyPV, RepV K W H (backK kd (rowK k)) (L2.kV k)
  | [], vs, h, _ => by
    simp only [RepVs] at h
    subst h
    exact ⟨rfl, (fun k hk => nomatch hk), rfl, fun k hk => nomatch hk⟩
  | x :: xs, vs, h, hk => by
    simp only [RepVs] at h
    obtain ⟨v, r, rfl, r1, r2⟩ := h
    obtain ⟨e1, e2, e3, e4⟩ := keys_of h1 r2 fun y hy => hk y (List.mem_cons_of_mem _ hy)
    have one : v = L2.kV (keyPV x) ∧ kdK (keyPV x) = kd ∧ rowK (keyPV x) = rowOf x ∧ RepV K W H (backK kd (rowK (keyPV x))) (L2.kV (keyPV x)) := by
      have k := hk x List.mem_cons_self
      generalize er : rowOf x = row at k ⊢
      unfold sKey at k
      split at k
      · cases k
        simp only [RepV] at r1
        refine ⟨r1, rfl, rfl, ?_⟩
        simp only [keyPV, rowK, backK, List.headD_cons, L2.kV, RepV]
      · cases k
        simp only [RepV] at r1
        refine ⟨r1.1, rfl, codes_txt _, ?_⟩
        simp only [keyPV, rowK, backK, L2.kV, RepV]
        rw [codes_txt, List.map_map]
        have e : ∀ l : List Nat, l.map (Int.toNat ∘ Int.ofNat) = l := fun l => by
          have : (Int.toNat ∘ Int.ofNat) = id := by funext n; rfl
          rw [this, List.map_id]
        rw [e]
        exact ⟨rfl, r1.2⟩
      · obtain ⟨_, _, z⟩ := Option.map_eq_some_iff.mp k
        cases z
        omega
      · obtain ⟨_, _, z⟩ := Option.map_eq_some_iff.mp k
        cases z
        omega
      · cases k
        omega
      · cases k
    refine ⟨by rw [List.map_cons, List.map_cons, e1, one.1], fun k hk => ?_, by rw [List.map_cons, List.map_cons, List.map_cons, e3, one.2.2.1], fun k hk => ?_⟩
    · rcases List.mem_cons.mp hk with z | z
      · rw [z]; exact one.2.1
      · exact e2 k z
    · rcases List.mem_cons.mp hk with z | z
      · rw [z]; exact one.2.2.2
      · exact e4 k z
theorem reps_of {α : Type} {K : PySem.W.Frag} {W : Wd} {H : Hp} {f : α → PV} {h : α → V} : ∀ {l : List α}, (∀ a ∈ l, RepV K W H (f a) (h a)) → RepVs K W H (l.map f) (l.map h)
  | [], _ => by simp only [List.map_nil, RepVs]
  | a :: l, q => by
    simp only [List.map_cons, RepVs]
    exact ⟨_, _, rfl, q a List.mem_cons_self, reps_of fun b hb => q b (List.mem_cons_of_mem _ hb)⟩
/-- behind the set: sorted, of keys -/
theorem sset_fin {H : Hp} {W : Wd} {S : Sto} {F : List Addr} {Q : L2.VK} {kd : Nat} {ks : List Key} {xs : List PV} {w : PySem.World} (ok : Ok X.K T W H S F) (q : Aft X.K T W H S F (.lst ((sortBy leI (dedup (xs.map rowOf))).map (backK kd))) .own Q)
    (k1 : ∀ k ∈ ks, kdK k = kd) (k2 : ks.map rowK = xs.map rowOf) (k3 : ∀ k ∈ ks, RepV X.K W H (backK kd (rowK k)) (L2.kV k)) {p : Addr} {c : Nat} (np : H p = none) : rSortedM w [.ref p] (upd H p (SetMO w p (inK ks) c)) Q := by
  refine ⟨p, ks, c, kd, rfl, L2.upd_same, k1, fun out q' np' nd mem srt => ?_⟩
  have e1 : out.map rowK = sortBy leI (dedup (xs.map rowOf)) := by
    refine sset_uniq ?_ (fun k => ?_) (SrtO.srtd_map srt)
    · refine List.pairwise_map.mpr (List.Pairwise.imp_of_mem (fun {a b} ha hb hne e => hne ?_) nd)
      exact rowK_inj (by rw [k1 a ((mem a).mp ha), k1 b ((mem b).mp hb)]) e
    · rw [← k2, List.mem_map, List.mem_map]
      exact ⟨fun ⟨a, ha, e⟩ => ⟨a, (mem a).mp ha, e⟩, fun ⟨a, ha, e⟩ => ⟨a, (mem a).mpr ha, e⟩⟩
  rw [← e1, List.map_map] at q
  have g1 : Grow W H (W.add p) (upd H p (SetMO w p (inK ks) c)) := Grow.laidS np
  have r := reps_of (l := out) (f := backK kd ∘ rowK) (h := L2.kV) fun a ha => RepV.grow g1 _ _ (k3 a ((mem a).mp ha))
  refine fin_lst (ok.laidS np) np' r fun W2 H2 z g f => q W2 H2 z (g1.trans g) (Fr.trans (B := []) (Fr.laid np) f (fun z => z) (fun z => z))
theorem rows_of {K : PySem.W.Frag} {W : Wd} {H : Hp} : ∀ {xs : List PV} {vs : List V}, RepVs K W H xs vs → (∀ x ∈ xs, sKey x = some (2, rowOf x)) →
    ∃ ks : List (Addr × List Int), vs = ks.map (fun p => V.ref p.1) ∧ ks.map (·.2) = xs.map rowOf ∧ (∀ p ∈ ks, SqT K H p.1 (p.2.map V.int)) ∧ (∀ p ∈ ks, RepV K W H (.tup (p.2.map .int)) (.ref p.1)) ∧ ∀ p ∈ ks, p.2 ≠ []
  | [], vs, h, _ => by
    simp only [RepVs] at h
    subst h
    exact ⟨[], rfl, rfl, (fun k hk => nomatch hk), (fun k hk => nomatch hk), fun k hk => nomatch hk⟩
  | x :: xs, vs, h, hk => by
    simp only [RepVs] at h
    obtain ⟨v, r, rfl, r1, r2⟩ := h
    obtain ⟨ks, e1, e2, e3, e4, e5⟩ := rows_of r2 fun y hy => hk y (List.mem_cons_of_mem _ hy)
    have one : ∃ a, v = .ref a ∧ SqT K H a ((rowOf x).map V.int) ∧ RepV K W H (.tup ((rowOf x).map .int)) (.ref a) ∧ rowOf x ≠ [] := by
      have k := hk x List.mem_cons_self
      generalize rowOf x = row at k ⊢
      unfold sKey at k
      split at k
      · cases k
      · cases k
      · rename_i i t
        obtain ⟨k', e, z⟩ := Option.map_eq_some_iff.mp k
        cases z
        obtain ⟨a, ws, rfl, q, rs⟩ := sqt_of r1
        have e6 := ints_reps e rs
        have e7 : (PV.int i :: t) = row.map .int := by
          have : ∀ (l : List PV) (m : List Int), intsOf l = some m → l = m.map .int := by
            intro l
            induction l with
            | nil => intro m e; unfold intsOf at e; cases e; rfl
            | cons y l ih =>
              intro m e
              unfold intsOf at e
              split at e
              · cases ‹_ = []›
              · rename_i he
                cases he
                obtain ⟨m', e8, z⟩ := Option.map_eq_some_iff.mp e
                rw [← z, List.map_cons, ← ih m' e8]
              · cases e
          exact this _ _ e
        rw [e7] at r1
        rw [e6] at q
        refine ⟨a, rfl, q, r1, fun z => ?_⟩
        rw [z] at e7
        cases e7
      · obtain ⟨_, _, z⟩ := Option.map_eq_some_iff.mp k
        cases z
      · cases k
      · cases k
    obtain ⟨a, rfl, h1, h2, h3⟩ := one
    refine ⟨(a, rowOf x) :: ks, by rw [List.map_cons, e1], by rw [List.map_cons, e2, List.map_cons], fun p hp => ?_, fun p hp => ?_, fun p hp => ?_⟩ <;> rcases List.mem_cons.mp hp with z | z
    · rw [z]; exact h1
    · exact e3 p z
    · rw [z]; exact h2
    · exact e4 p z
    · rw [z]; exact h3
    · exact e5 p z
theorem sqt_upd {K : PySem.W.Frag} {H : Hp} {a p : Addr} {o : HO} {xs : List V} (np : H p = none) (h : SqT K H a xs) : SqT K (upd H p o) a xs := h.imp (fun r => rd_upd np r) id
abbrev rSetU (X : L2.Cx) : List V → Hp → L2.VK → Prop := fun vs H Q => rSetOfK X.K X.w vs H Q ∨ (rSetOfKT X.K X.w vs H Q ∨ L2.rSetOfT X.K X.prog X.w vs H Q)
abbrev rSrtU (X : L2.Cx) : List V → Hp → L2.VK → Prop := fun vs H Q => rSortedM X.w vs H Q ∨ rSortedR X.K X.prog X.w vs H Q
theorem sset_read {x : V} {H : Hp} {Q : L2.VK} (h : RCn X.K T (bi .sset) [x] H Q) : rSetU X [x] H fun y H2 => rSrtU X [y] H2 Q := by
  obtain ⟨W, S, F, us, v, m, hv, ok, e, hf, q⟩ := h
  have core : ∀ {xs : List PV} {r : List PV}, sset xs = some r → ∃ kd, kd < 3 ∧ xs.length < 64 ∧ (∀ x ∈ xs, sKey x = some (kd, rowOf x)) ∧ r = (sortBy leI (dedup (xs.map rowOf))).map (backK kd) := fun {xs r} e => by
    unfold sset at e
    obtain ⟨⟨kd, rows⟩, e1, e2⟩ := Option.bind_eq_some_iff.mp e
    split at e2
    · rename_i hc
      cases e2
      obtain ⟨h1, h2⟩ := kindOf_mem e1
      exact ⟨kd, hc.1, hc.2, h1, by rw [h2]⟩
    · cases e2
  have bnd : ∀ {xs : List PV}, xs.length < 64 → (xs.map keyPV).length + 1 < PySem.scanBound := fun {xs} h => by
    rw [List.length_map]
    unfold PySem.scanBound
    omega
  unfold bi at e
  split at e
  all_goals try cases ‹Bi.sset = _›
  · rename_i xs
    obtain ⟨r, e1, e2⟩ := Option.map_eq_some_iff.mp e
    cases e2
    obtain ⟨kd, h3, h64, hk, rfl⟩ := core e1
    obtain ⟨x', ex, w⟩ := vws1 hv
    cases ex
    obtain ⟨a, ws, rfl, t, rp⟩ := w
    by_cases h1 : kd ≤ 1
    · obtain ⟨e3, k1, k2, k3⟩ := keys_of h1 rp hk
      exact .inl ⟨a, xs.map keyPV, rfl, by rw [← e3]; exact .inl t, bnd h64, fun p c np _ => .inl (sset_fin ok q k1 k2 k3 np)⟩
    · obtain rfl : kd = 2 := by omega
      obtain ⟨ks, e3, e4, k1, k2, k3⟩ := rows_of rp hk
      have l64 : ks.length < 64 := by
        have := congrArg List.length e4
        rw [List.length_map, List.length_map] at this
        omega
      refine .inr (.inr ⟨a, ks, rfl, by rw [← e3]; exact .inl t, k1, l64, fun p L np sub cov => .inr ⟨p, L, rfl, L2.upd_same, fun y hy => sqt_upd np (k1 y (sub y hy)), fun y hy => k3 y (sub y hy), fun L' p' pm nd srt np' => ?_⟩⟩)
      have e5 : L'.map (·.2) = sortBy leI (dedup (xs.map rowOf)) := by
        refine sset_uniq nd (fun k => ?_) (SrtO.srtd_map srt)
        rw [← e4]
        constructor
        · intro hm
          obtain ⟨y, hy, e⟩ := List.mem_map.mp hm
          exact List.mem_map.mpr ⟨y, sub y (pm.mem_iff.mp hy), e⟩
        · intro hm
          obtain ⟨y, hy, e⟩ := List.mem_map.mp hm
          have z := cov y hy
          rw [e] at z
          exact (pm.map (·.2)).mem_iff.mpr z
      rw [← e5, List.map_map] at q
      have g1 : Grow W H (W.add p) (upd H p (L2.SetTO X.prog X.w p L)) := Grow.laidS np
      have r := reps_of (l := L') (f := backK 2 ∘ fun y : Addr × List Int => y.2) (h := fun y => V.ref y.1) fun y hy => RepV.grow g1 _ _ (k2 y (sub y (pm.mem_iff.mp hy)))
      exact fin_lst (ok.laidS np) np' r fun W2 H2 z g f => q W2 H2 z (g1.trans g) (Fr.trans (B := []) (Fr.laid np) f (fun z => z) (fun z => z))
  · rename_i xs
    split at e
    · rename_i fr
      obtain ⟨r, e1, e2⟩ := Option.map_eq_some_iff.mp e
      cases e2
      obtain ⟨kd, h3, h64, hk, rfl⟩ := core e1
      obtain ⟨x', ex, w⟩ := vws1 hv
      cases ex
      obtain ⟨a, ws, rfl, t, rp⟩ := w
      have h1 : xs = [] ∨ kd ≤ 1 := by
        cases xs with
        | nil => exact .inl rfl
        | cons y r =>
          refine .inr ?_
          have k := hk y List.mem_cons_self
          unfold rowsFree at fr
          rw [List.all_cons, Bool.and_eq_true] at fr
          unfold sKey at k
          split at k
          · cases k; decide
          · cases k; decide
          · exact absurd fr.1 (by simp)
          · exact absurd fr.1 (by simp)
          · exact absurd fr.1 (by simp)
          · cases k
      rcases h1 with h1 | h1
      · subst h1
        simp only [RepVs] at rp
        subst rp
        refine .inr (.inl ⟨a, [], rfl, t, by unfold PySem.scanBound; decide, fun p c np _ => .inl ?_⟩)
        exact sset_fin (ks := []) (xs := []) ok q (fun k hk => nomatch hk) rfl (fun k hk => nomatch hk) np
      · obtain ⟨e3, k1, k2, k3⟩ := keys_of h1 rp hk
        exact .inr (.inl ⟨a, xs.map keyPV, rfl, by rw [← e3]; exact t, bnd h64, fun p c np _ => .inl (sset_fin ok q k1 k2 k3 np)⟩)
    · cases e
  · cases e
theorem e_sset (C : Ctx X T G Φ g sc N exc WX) {a : CE} {pa : PySem.Expr} {p p1 pos pos1 : PySem.Pos} (hl : ("sorted" : Str) ∈ g.blt) (hr : ("set" : Str) ∈ g.blt) (gl : glB sc "sorted" = true) (gr : glB sc "set" = true) (na : noStar pa = true)
    (ha : PEe X T WX pa (simpE a) (evE G Φ a)) : PEe X T WX (.Call (.Name "sorted" p) [.Call (.Name "set" p1) [pa] [] pos1] [] pos) false (evE G Φ (.bi .sset (.cons a .nil))) := by
  have hu := C.units
  have inner := L2.pe_callTy (pos := pos1) (p := p1) (cr_or (cr_setOfK C.calm) (cr_or (cr_setOfKT C.calm) (L2.cr_setOfT C.calm (by omega)))) (gl_of C gr) (C.blt _ hr) (by decide +kernel) (L2.pa_cons ha L2.pa_nil (star_of na)) (by decide) (by decide +kernel) (star_of na) rfl
  refine pe_imp (L2.pe_callB (pos := pos) (p := p) (cr_or (cr_sortedM C.calm (by omega)) (cr_sortedR C.calm (by omega))) (gl_of C gl) (C.blt _ hl) (by decide +kernel) (L2.pa_cons inner L2.pa_nil rfl) (by decide) (by decide +kernel) rfl rfl) fun σ H Q h => ?_
  exact tie_mono (fun x H1 t => sset_read (ta_nil σ H1 _ t)) (ta_cons σ H _ (rcn_of σ H Q h))
end
end SR

set_option linter.unusedVariables false
set_option maxRecDepth 100000
set_option maxHeartbeats 0
/-! Dicts written, slices with both ends, tuple(..). -/
namespace SR
open PySem (Addr Str Value PyData Heap)
open L2 (V Hp HO Key upd Rd SqL SqT)
section
variable {X : L2.Cx} {T : Tb} {G : Prg} {Φ : Phi} {g : Sg} {sc : PySem.Scope} {N : List Str} {exc : Nat → Value} {WX : WXn}
/-! ### tuple(xs) -/
theorem e_tupOf (C : Ctx X T G Φ g sc N exc WX) {a : CE} {pa : PySem.Expr} {p pos : PySem.Pos} (hb : ("tuple" : Str) ∈ g.blt) (hg : glB sc "tuple" = true) (na : noStar pa = true) (ha : PEe X T WX pa (simpE a) (evE G Φ a)) :
    PEe X T WX (.Call (.Name "tuple" p) [pa] [] pos) false (evE G Φ (.bi .tuple (.cons a .nil))) := by
  refine pe_imp (L2.pe_tupleOf (gl_of C hg) (C.blt _ hb) ha (star_of na)) fun σ H Q h => ?_
  refine tie_mono (fun x H1 t => ?_) (ta_cons σ H _ (rcn_of σ H Q h))
  obtain ⟨W, S, F, us, v, m, hv, ok, e, hf, q⟩ := ta_nil σ H1 _ t
  unfold bi at e
  split at e
  all_goals try cases ‹Bi.tuple = _›
  · cases e
    obtain ⟨x', ex, a, ws, rfl, t', rp⟩ := vws1 hv
    cases ex
    exact .inl ⟨a, ws, rfl, .inl t', fun p np => fin_tup ok np rp q⟩
  · cases e
/-! ### slices with both ends -/
theorem e_slcB {a b c : CE} {ea eb ec : PySem.Expr} {pos p2 : PySem.Pos} (ha : PEe X T WX ea (simpE a) (evE G Φ a)) (hb : PEe X T WX eb (simpE b) (evE G Φ b)) (hc : PEe X T WX ec (simpE c) (evE G Φ c)) :
    PEe X T WX (.Subscript ea (.Slice (some eb) (some ec) none p2) pos) false (evE G Φ (.slcB a b c)) := by
  refine pe_imp (L2.pe_slice (o_slice (T := T)) ha (L2.po_some hb) (L2.po_some hc)) fun σ H Q h => ?_
  obtain ⟨W, S, r, A, F, a0, q⟩ := h
  refine ⟨W, S, r, A, F, a0, ?_⟩
  simp only [evE] at q
  cases c1 : evE G Φ a r S with
  | bad => rw [c1] at q; exact q.elim
  | exc x S' => rw [c1] at q; exact fun W' H' g' f' ok => q W' H' g' (fun a o e z => f' a o e (z.imp id no_t)) ok
  | ok x m S1 =>
    rw [c1] at q
    simp only [Res.bindK_ok] at q
    intro W1 H1 u g1 f1 hx ok1
    have f1' : Fr H H1 F false := fun a o e z => f1 a o e (z.imp id no_t)
    split at q
    · rename_i hm
      refine ⟨W1, S1, r, A, ownA m u ++ F, a0.next g1 f1 ok1, ?_⟩
      cases c2 : evE G Φ b r S1 with
      | bad => rw [c2] at q; exact q.elim
      | exc y S' => rw [c2] at q; exact fun W' H' g' f' ok => q W' H' (g1.trans g') (f1'.trans (s2 := false) (fun a o e z => f' a o e (z.imp id no_t)) id id) ok.drop
      | ok y n S2 =>
        rw [c2] at q
        simp only [Res.bind_ok] at q
        intro W2 H2 w g2 f2 hy ok2
        have f2' : Fr H H2 F false := f1'.trans (s2 := false) (fun a o e z => f2 a o e (z.imp id no_t)) id id
        cases y with
        | int i =>
          obtain ⟨rfl, rfl⟩ := int_held hy
          dsimp only at q
          refine ⟨i, rfl, W2, S2, r, A, _, (a0.next g1 f1 ok1).next g2 f2 ok2, ?_⟩
          cases c3 : evE G Φ c r S2 with
          | bad => rw [c3] at q; exact q.elim
          | exc z S' =>
            rw [c3] at q
            exact fun W' H' g' f' ok => q W' H' ((g1.trans g2).trans g') (f2'.trans (B := ownA m u) (s2 := false) (fun a o e z => f' a o e (z.imp id no_t)) id id) (Ok.drop (B := ownA m u) ok)
          | ok z o S3 =>
            rw [c3] at q
            simp only [Res.bind_ok] at q
            intro W3 H3 v g3 f3 hz ok3
            cases z with
            | int j =>
              obtain ⟨rfl, rfl⟩ := int_held hz
              dsimp only at q
              obtain ⟨v', m', e, hf, q⟩ := ofO_ok (KE X.K T W H F false WX σ Q) (fun z => z) q
              have hmb : m.ok (simpE b) = true := by
                cases m with
                | brf =>
                  have hm : (simpE b && simpE c) = true := hm
                  exact (simp_and hm).1
                | _ => rfl
              have hmc : m.ok (simpE c) = true := by
                cases m with
                | brf =>
                  have hm : (simpE b && simpE c) = true := hm
                  exact (simp_and hm).2
                | _ => rfl
              refine ⟨j, rfl, W3, S3, ownA m u ++ F, x, m, v', m', ?_, ok3, e, hf, fun W' H' v g4 f4 hv ok4 => ?_⟩
              · have h2 := hx.next ok1 g2 f2 hmb fun a ha => ha
                have ok2' : Ok X.K T W2 H2 S2 (ownA m u ++ F) := ok2
                have h3 := Held.next h2 (F := F) ok2' g3 f3 hmc fun a ha => ha
                cases m with
                | bor =>
                  obtain ⟨b0, e0, z⟩ := h3
                  exact ⟨b0, e0, z.imp (fun z => ⟨z.1, by simp [ownA]; exact z.2⟩) id⟩
                | _ => exact h3
              · refine q W' H' v (((g1.trans g2).trans g3).trans g4) (fun a o e hh => ?_) (hv.fin hf) ok4.mid
                refine f4 a o (f3 a o (f2' a o e hh) (hh.imp (fun z => by simp [ownA, z]) no_t)) (.inr rfl)
            | _ => exact q.elim
        | _ => exact q.elim
    · exact q.elim
/-! ### dicts written -/
def kyV : Ky → V
  | .str x => .str (txt x)
  | _ => .non
def kyK : Ky → Key
  | .str x => .inr (txt x)
  | _ => .inl 0
def trsE (K : PySem.W.Frag) (T : Tb) (G : Prg) (Φ : Phi) (WX : WXn) : List Ky → CEs → List (L2.TE × L2.TE)
  | k :: ks, .cons e es => ((fun _ H Q => Q (kyV k) H), TIe K T WX (simpE e) (evE G Φ e)) :: trsE K T G Φ WX ks es
  | _, _ => []
/-- each part has its rule -/
def Alls (X : L2.Cx) (T : Tb) (WX : WXn) (G : Prg) (Φ : Phi) : CEs → List PySem.Expr → Prop
  | .nil, es => es = []
  | .cons e r, es => ∃ x xs, es = x :: xs ∧ PEe X T WX x (simpE e) (evE G Φ e) ∧ Alls X T WX G Φ r xs
theorem pps_of {pos : PySem.Pos} : ∀ {ks : List Ky} {kx : List (Option PySem.Expr)} {es : CEs} {vs : List PySem.Expr}, ckK ks kx = true → ks.length = es.len → Alls X T WX G Φ es vs → L2.PPs X pos kx vs (trsE X.K T G Φ WX ks es)
  | [], [], .nil, vs, _, _, h => by
    obtain rfl : vs = [] := h
    exact L2.pps_nil
  | [], [], .cons _ _, vs, _, hl, _ => by simp [CEs.len] at hl
  | [], _ :: _, _, _, h, _, _ => by simp [ckK] at h
  | .int _ :: _, _, _, _, h, _, _ => by simp [ckK] at h
  | .tp _ :: _, _, _, _, h, _, _ => by simp [ckK] at h
  | .str x :: ks, kx, .nil, _, _, hl, _ => by simp [CEs.len] at hl
  | .str x :: ks, kx, .cons e es, vs, h, hl, ha => by
    obtain ⟨y, ys, rfl, h1, h2⟩ := ha
    unfold ckK at h
    split at h
    · cases ‹_ = []›
    · rename_i x' ks' s i p es' he
      injection he with a b
      injection a with a
      subst a b
      simp only [Bool.and_eq_true, decide_eq_true_eq, List.all_eq_true] at h
      obtain ⟨⟨rfl, hx⟩, h⟩ := h
      exact L2.pps_cons L2.pe_str h1 (pps_of h (by simpa [CEs.len] using hl) h2)
    · cases h
theorem tp_mono : ∀ {ks : List Ky} {es : CEs} {σ : L2.St} {H : Hp} {Q Q' : List (V × V) → Hp → Prop}, (∀ ps H, Q ps H → Q' ps H) → L2.tPairs (trsE X.K T G Φ WX ks es) σ H Q → L2.tPairs (trsE X.K T G Φ WX ks es) σ H Q'
  | [], es, σ, H, Q, Q', hq, h => by
    cases es <;> exact hq _ _ h
  | _ :: _, .nil, σ, H, Q, Q', hq, h => hq _ _ h
  | k :: ks, .cons e es, σ, H, Q, Q', hq, h => tie_mono (fun x H1 t => tp_mono (ks := ks) (es := es) (fun ps H2 q => hq _ _ q) t) h
theorem tia_pairs : ∀ {ks : List Ky} {es : CEs} {σ : L2.St} {H : Hp} {Q : List V → Hp → Prop}, ks.length = es.len → TIa X.K T WX (evA G Φ es) σ H Q → L2.tPairs (trsE X.K T G Φ WX ks es) σ H fun ps H2 => ∃ xs : List V, xs.length = ks.length ∧ ps = (ks.map kyV).zip xs ∧ Q xs H2
  | [], .nil, σ, H, Q, _, h => ⟨[], rfl, rfl, ta_nil σ H Q h⟩
  | [], .cons _ _, _, _, _, hl, _ => by simp [CEs.len] at hl
  | _ :: _, .nil, _, _, _, hl, _ => by simp [CEs.len] at hl
  | k :: ks, .cons e es, σ, H, Q, hl, h => by
    refine tie_mono (fun x H1 t => ?_) (ta_cons σ H Q h)
    have ih := tia_pairs (ks := ks) (es := es) (by simpa [CEs.len] using hl) t
    exact tp_mono (fun ps H2 ⟨xs, l, e1, q⟩ => ⟨x :: xs, by simp [l], by rw [e1]; rfl, q⟩) ih
theorem zip_rep {K : PySem.W.Frag} {W : Wd} {H : Hp} : ∀ {ks : List Ky} {kx : List (Option PySem.Expr)} {ys : List PV} {xs : List V}, ckK ks kx = true → xs.length = ks.length → RepVs K W H ys xs →
    RepK K W H (ks.zip ys) ((ks.map kyK).zip xs) ∧ (ks.map kyV).zip xs = ((ks.map kyK).zip xs).map fun kv => (L2.kV kv.1, kv.2)
  | [], _, ys, xs, _, _, _ => by
    simp only [List.zip_nil_left, List.map_nil, RepK]
    exact ⟨trivial, trivial⟩
  | .int _ :: _, _, _, _, h, _, _ => by simp [ckK] at h
  | .tp _ :: _, _, _, _, h, _, _ => by simp [ckK] at h
  | .str x :: ks, kx, ys, [], _, hl, _ => by simp at hl
  | .str x :: ks, kx, [], v :: vs, _, hl, h => by
    simp only [RepVs] at h
    cases h
  | .str x :: ks, kx, y :: ys, v :: vs, h, hl, r => by
    unfold ckK at h
    split at h
    · cases ‹_ = []›
    · rename_i x' ks' s i p es' he
      injection he with a b
      injection a with a
      subst a b
      simp only [Bool.and_eq_true, decide_eq_true_eq, List.all_eq_true] at h
      obtain ⟨⟨rfl, hx⟩, h⟩ := h
      simp only [RepVs] at r
      obtain ⟨v', r', ev, h1, h2⟩ := r
      cases ev
      obtain ⟨i1, i2⟩ := zip_rep h (by simpa using hl) h2
      refine ⟨?_, ?_⟩
      · simp only [List.map_cons, List.zip_cons_cons, RepK]
        exact ⟨_, _, _, rfl, .str _ hx, h1, i1⟩
      · simp only [List.map_cons, List.zip_cons_cons, i2]
        rfl
    · cases h
theorem e_dsp {ks : List Ky} {kx : List (Option PySem.Expr)} {es : CEs} {vs : List PySem.Expr} {pos : PySem.Pos} (hk : ckK ks kx = true) (h0 : 0 < ks.length) (h15 : ks.length ≤ 15) (hl : ks.length = es.len) (hlv : kx.length = vs.length) (hlk : kx.length = ks.length) (hs : kx.all (·.isSome) = true)
    (ha : Alls X T WX G Φ es vs) : PEe X T WX (.Dict kx vs pos) false (evE G Φ (.dsp ks es)) := by
  refine pe_imp (L2.pe_disp (pps_of hk hl ha) hs hlv (fun z => by rw [z] at hlk; simp at hlk; omega) (by omega)) fun σ H Q h => ?_
  obtain ⟨W, S, r, A, F, a0, q⟩ := h
  simp only [evE] at q
  intro p np
  have g1 : Grow W H W (upd H p (.dK [])) := Grow.laid np
  have fr1 : ∀ {s}, Fr H (upd H p (.dK [])) F s := Fr.laid np
  have a1 : At X.K T W S r A (p :: F) σ (upd H p (.dK [])) := by
    have := a0.next (s := true) (B := [p]) g1 (Fr.laid np) (a0.ok.laid np)
    exact this
  have key : TIa X.K T WX (evA G Φ es) σ (upd H p (.dK [])) fun xs H2 => H2 p = some (.dK []) ∧ (xs.length = ks.length → Q (.ref p) (upd H2 p (.dK (L2.mergeK [] ((ks.map kyK).zip xs)))) ∧ (ks.map kyV).zip xs = ((ks.map kyK).zip xs).map fun kv => (L2.kV kv.1, kv.2)) := by
    refine ⟨W, S, r, A, p :: F, a1, ?_⟩
    cases c : evA G Φ es r S with
    | bad => rw [c] at q; exact q.elim
    | exc x S' =>
      rw [c] at q
      exact fun W' H' g' f' ok => q W' H' (g1.trans g') (fr1.trans (s := false) (s1 := false) (B := [p]) f' id id) (Ok.drop (B := [p]) ok)
    | ok vs S1 =>
      rw [c] at q
      simp only [Ress.bind_ok] at q
      intro W2 H2 xs B g2 f2 hxs ok2
      have hp : H2 p = some (.dK []) := f2 p _ L2.upd_same (.inl List.mem_cons_self)
      refine ⟨hp, fun l => ?_⟩
      have rs := share_reps (B := B) (evA_un es r S vs S1 c) hxs fun a ha => ha
      have ok3 : Ok X.K T (W2.addL B) H2 S1 (p :: F) := ok2.addL
      obtain ⟨z1, z2⟩ := zip_rep hk l rs
      refine ⟨?_, z2⟩
      obtain ⟨ok4, g4, f4, nm⟩ := ok3.wr (o := .dK (L2.mergeK [] ((ks.map kyK).zip xs)))
      have gg := ((g1.trans g2).trans (Grow.addL (B := B))).trans g4
      refine q _ _ (.ref p) gg (fun a o e hh => ?_) ⟨p, rfl, .inl ⟨_, L2.upd_same, RepK.grow g4 _ _ (RepK.mergeR z1 (by simp only [RepK]))⟩⟩ ok4
      rcases hh with hh | hh
      · exact f4 a o (f2 a o (fr1 (s := false) a o e (.inl hh)) (.inl (List.mem_cons_of_mem _ hh))) (.inl hh)
      · cases hh
  have t := tia_pairs hl key
  refine tp_mono (fun ps H2 ⟨xs, l, e1, hp, q⟩ => ?_) t
  obtain ⟨q1, q2⟩ := q l
  refine ⟨hp, (ks.map kyK).zip xs, by rw [e1, q2], ?_, q1⟩
  rw [List.length_zip, List.length_map, l]
  omega
end
end SR

set_option maxRecDepth 100000
set_option maxHeartbeats 0
/-! The checker's word holds. -/
namespace SR
open PySem (Addr Str Value PyData Heap)
open L2 (V Hp HO Key upd Rd SqL SqT)
section
variable {T : Tb} {G : Prg} {Φ : Phi} {g : Sg} {N : List Str} {exc : Nat → Value}
theorem lit_ok {X : L2.Cx} {WX : WXn} {v : PV} {c : PySem.Const} {k : Nat} {pos : PySem.Pos} (h : litB v c = true) : PEe X T WX (.Constant c k pos) true (evE G Φ (.lit v)) := by
  have e : evE G Φ (.lit v) = fun _ S => .ok v .sh S := by funext r S; simp only [evE]
  rw [e]
  cases v with
  | non => cases c <;> first | exact e_non | cases h
  | bl b => cases c <;> first | (obtain rfl := eq_of_beq h; exact e_bl) | cases h
  | int b => cases c <;> first | (obtain rfl := eq_of_beq h; exact e_int) | cases h
  | str b =>
    cases c with
    | str s =>
      simp only [litB, Bool.and_eq_true, decide_eq_true_eq, List.all_eq_true] at h
      obtain ⟨rfl, h⟩ := h
      exact e_str h
    | _ => cases h
  | _ => cases h
theorem bi_call {X : L2.Cx} {WX : WXn} {sc : PySem.Scope} (C : Ctx X T G Φ g sc N exc WX) {b : Bi} {x : Str} {es : CEs} {pe : PySem.Expr} {pes : List PySem.Expr} {p pos : PySem.Pos} (hb : biN b = some x) (hx : has g.blt x = true)
    (hg : glB sc x = true) (hst : noStars (pe :: pes) = true) (h : PAe X T WX (pe :: pes) (evA G Φ es)) : PEe X T WX (.Call (.Name x p) (pe :: pes) [] pos) false (evE G Φ (.bi b es)) := by
  have hx := has_mem hx
  cases b <;> simp only [biN, Option.some.injEq, reduceCtorEq] at hb <;> subst hb
  · exact e_biB C b_len (by decide +kernel) hx (by decide +kernel) (by decide +kernel) hg hst h
  · exact e_biB C (b_min2 C.calm) (by decide +kernel) hx (by decide +kernel) (by decide +kernel) hg hst h
  · exact e_biB C (b_max2 C.calm) (by decide +kernel) hx (by decide +kernel) (by decide +kernel) hg hst h
  · exact e_biB C (b_minL C.calm) (by decide +kernel) hx (by decide +kernel) (by decide +kernel) hg hst h
  · exact e_biB C (b_maxL C.calm) (by decide +kernel) hx (by decide +kernel) (by decide +kernel) hg hst h
  · exact e_biB C (b_sum C.calm) (by decide +kernel) hx (by decide +kernel) (by decide +kernel) hg hst h
  · exact e_biT C b_int (by decide +kernel) hx (by decide +kernel) (by decide +kernel) hg hst h
  · exact e_biT C (b_list C.calm) (by decide +kernel) hx (by decide +kernel) (by decide +kernel) hg hst h
  · exact e_biT C (b_dict C.calm) (by decide +kernel) hx (by decide +kernel) (by decide +kernel) hg hst h
  · exact e_biB C (b_all C.calm) (by decide +kernel) hx (by decide +kernel) (by decide +kernel) hg hst h
  · exact e_biB C (b_any C.calm) (by decide +kernel) hx (by decide +kernel) (by decide +kernel) hg hst h
  · exact e_biB C (b_sorted (by have := C.units; omega)) (by decide +kernel) hx (by decide +kernel) (by decide +kernel) hg hst h
theorem bi1_call {X : L2.Cx} {WX : WXn} {sc : PySem.Scope} (C : Ctx X T G Φ g sc N exc WX) {b : Bi} {x : Str} {a : CE} {pe : PySem.Expr} {p pos : PySem.Pos} (hb : biN b = some x) (hx : has g.blt x = true)
    (hg : glB sc x = true) (hst : noStar pe = true) (h : PEe X T WX pe (simpE a) (evE G Φ a)) : PEe X T WX (.Call (.Name x p) [pe] [] pos) false (evE G Φ (.bi1 b a)) := by
  have hx := has_mem hx
  cases b <;> simp only [biN, Option.some.injEq, reduceCtorEq] at hb <;> subst hb
  · exact e_bi1B C b_len (by decide +kernel) hx (by decide +kernel) (by decide +kernel) hg hst h
  · exact e_bi1B C (b_min2 C.calm) (by decide +kernel) hx (by decide +kernel) (by decide +kernel) hg hst h
  · exact e_bi1B C (b_max2 C.calm) (by decide +kernel) hx (by decide +kernel) (by decide +kernel) hg hst h
  · exact e_bi1B C (b_minL C.calm) (by decide +kernel) hx (by decide +kernel) (by decide +kernel) hg hst h
  · exact e_bi1B C (b_maxL C.calm) (by decide +kernel) hx (by decide +kernel) (by decide +kernel) hg hst h
  · exact e_bi1B C (b_sum C.calm) (by decide +kernel) hx (by decide +kernel) (by decide +kernel) hg hst h
  · exact e_bi1T C b_int (by decide +kernel) hx (by decide +kernel) (by decide +kernel) hg hst h
  · exact e_bi1T C (b_list C.calm) (by decide +kernel) hx (by decide +kernel) (by decide +kernel) hg hst h
  · exact e_bi1T C (b_dict C.calm) (by decide +kernel) hx (by decide +kernel) (by decide +kernel) hg hst h
  · exact e_bi1B C (b_all C.calm) (by decide +kernel) hx (by decide +kernel) (by decide +kernel) hg hst h
  · exact e_bi1B C (b_any C.calm) (by decide +kernel) hx (by decide +kernel) (by decide +kernel) hg hst h
  · exact e_bi1B C (b_sorted (by have := C.units; omega)) (by decide +kernel) hx (by decide +kernel) (by decide +kernel) hg hst h
variable (hfin : ∀ f vs S v m S', Φ f vs S = .ok v m S' → m.fin = true)
include hfin
mutual
theorem sndE : ∀ (ce : CE) (X : L2.Cx) (WX : WXn) (sc : PySem.Scope) (_ : Ctx X T G Φ g sc N exc WX) (e : PySem.Expr), ckE g N ce sc e = true → PEe X T WX e (simpE ce) (evE G Φ ce)
  | .lit v, X, WX, sc, C, e, h => by
    simp only [ckE] at h
    split at h
    · exact lit_ok h
    · cases h
  | .var i, X, WX, sc, C, e, h => by
    simp only [ckE] at h
    split at h
    · simp only [Bool.and_eq_true, decide_eq_true_eq] at h
      exact e_var C h.1.1 h.1.2 h.2
    · cases h
  | .glob i, X, WX, sc, C, e, h => by
    simp only [ckE] at h
    split at h
    · simp only [Bool.and_eq_true, decide_eq_true_eq] at h
      exact e_glob C h.1 h.2
    · cases h
  | .bin op a b, X, WX, sc, C, e, h => by
    simp only [ckE] at h
    split at h
    · simp only [Bool.and_eq_true, sameO, decide_eq_true_eq] at h
      obtain ⟨⟨rfl, h1⟩, h2⟩ := h
      exact e_bin (sndE a X WX sc C _ h1) (sndE b X WX sc C _ h2)
    · cases h
  | .neg a, X, WX, sc, C, e, h => by
    simp only [ckE] at h
    split at h
    · simp only [Bool.and_eq_true, decide_eq_true_eq] at h
      obtain ⟨rfl, h1⟩ := h
      exact e_neg (sndE a X WX sc C _ h1)
    · cases h
  | .cmp op a b, X, WX, sc, C, e, h => by
    simp only [ckE] at h
    split at h
    · simp only [Bool.and_eq_true, sameC, decide_eq_true_eq] at h
      obtain ⟨⟨⟨rfl, hs⟩, h1⟩, h2⟩ := h
      exact e_cmp C hs (sndE a X WX sc C _ h1) (sndE b X WX sc C _ h2)
    · cases h
  | .and a b, X, WX, sc, C, e, h => by
    simp only [ckE] at h
    split at h
    · simp only [Bool.and_eq_true, decide_eq_true_eq] at h
      obtain ⟨⟨rfl, h1⟩, h2⟩ := h
      split at h2
      · exact e_and (sndE a X WX sc C _ h1) (L2.pe_one (sndE b X WX sc C _ h2))
      · exact e_and (sndE a X WX sc C _ h1) (sndE b X WX sc C _ h2)
    · cases h
  | .or a b, X, WX, sc, C, e, h => by
    simp only [ckE] at h
    split at h
    · simp only [Bool.and_eq_true, decide_eq_true_eq] at h
      obtain ⟨⟨rfl, h1⟩, h2⟩ := h
      split at h2
      · exact e_or (sndE a X WX sc C _ h1) (L2.pe_one (sndE b X WX sc C _ h2))
      · exact e_or (sndE a X WX sc C _ h1) (sndE b X WX sc C _ h2)
    · cases h
  | .not a, X, WX, sc, C, e, h => by
    simp only [ckE] at h
    split at h
    · simp only [Bool.and_eq_true, decide_eq_true_eq] at h
      obtain ⟨rfl, h1⟩ := h
      exact e_not (sndE a X WX sc C _ h1)
    · cases h
  | .ite c a b, X, WX, sc, C, e, h => by
    simp only [ckE] at h
    split at h
    · simp only [Bool.and_eq_true] at h
      exact e_ite (sndC c X WX sc C _ h.1.1) (sndE a X WX sc C _ h.1.2) (sndE b X WX sc C _ h.2)
    · cases h
  | .tup es, X, WX, sc, C, e, h => by
    simp only [ckE] at h
    split at h
    · simp only [Bool.and_eq_true, decide_eq_true_eq] at h
      exact e_tup (sndA es X WX sc C _ h.2) h.1
    · cases h
  | .lst es, X, WX, sc, C, e, h => by
    simp only [ckE] at h
    split at h
    · simp only [Bool.and_eq_true, decide_eq_true_eq] at h
      exact e_lst (sndA es X WX sc C _ h.2) h.1
    · cases h
  | .dnw, X, WX, sc, C, e, h => by
    simp only [ckE] at h
    split at h
    · exact e_dnw
    · cases h
  | .dsp ks es, X, WX, sc, C, e, h => by
    simp only [ckE] at h
    split at h
    · simp only [Bool.and_eq_true, decide_eq_true_eq] at h
      obtain ⟨⟨⟨⟨⟨⟨⟨h1, h2⟩, h3⟩, h4⟩, h5⟩, h6⟩, h7⟩, h8⟩ := h
      exact e_dsp h1 h2 h3 h4 h5 h6 h7 (sndL es X WX sc C _ h8)
    · cases h
  | .slcB a b c, X, WX, sc, C, e, h => by
    simp only [ckE] at h
    split at h
    · simp only [Bool.and_eq_true] at h
      exact e_slcB (sndE a X WX sc C _ h.1.1) (sndE b X WX sc C _ h.1.2) (sndE c X WX sc C _ h.2)
    · cases h
  | .sub a b, X, WX, sc, C, e, h => by
    simp only [ckE] at h
    split at h
    · simp only [Bool.and_eq_true] at h
      exact e_sub C h.1.1 (sndE a X WX sc C _ h.1.2) (sndE b X WX sc C _ h.2)
    · cases h
  | .isi t a, X, WX, sc, C, e, h => by
    simp only [ckE] at h
    split at h
    · simp only [Bool.and_eq_true, decide_eq_true_eq] at h
      obtain ⟨⟨⟨⟨⟨⟨⟨rfl, rfl⟩, h1⟩, h2⟩, h3⟩, h4⟩, h5⟩, h6⟩ := h
      exact e_isi C (has_mem h1) h2 (has_mem h3) h4 h5 (sndE a X WX sc C _ h6)
    · cases h
  | .gsub t k, X, WX, sc, C, e, h => by
    simp only [ckE] at h
    split at h
    · simp only [Bool.and_eq_true, decide_eq_true_eq] at h
      exact e_gsub C h.1.1.1 h.1.1.2 h.1.2 (sndE k X WX sc C _ h.2)
    · cases h
  | .slcL a b, X, WX, sc, C, e, h => by
    simp only [ckE] at h
    split at h
    · simp only [Bool.and_eq_true] at h
      exact e_slcL (sndE a X WX sc C _ h.1) (sndE b X WX sc C _ h.2)
    · cases h
  | .slcU a b, X, WX, sc, C, e, h => by
    simp only [ckE] at h
    split at h
    · simp only [Bool.and_eq_true] at h
      exact e_slcU (sndE a X WX sc C _ h.1) (sndE b X WX sc C _ h.2)
    · cases h
  | .call f es, X, WX, sc, C, e, h => by
    simp only [ckE] at h
    split at h
    · simp only [Bool.and_eq_true, decide_eq_true_eq] at h
      exact e_call C hfin h.1.1.1 h.1.1.2 h.1.2 (sndA es X WX sc C _ h.2)
    · cases h
  | .bi b (.cons a .nil), X, WX, sc, C, e, h => by
    simp only [ckE] at h
    split at h
    · simp only [Bool.and_eq_true, decide_eq_true_eq] at h
      obtain ⟨⟨⟨⟨⟨⟨⟨rfl, rfl⟩, h1⟩, h2⟩, h3⟩, h4⟩, h5⟩, h6⟩ := h
      exact e_sset C (has_mem h1) (has_mem h2) h3 h4 h5 (sndE a X WX sc C _ h6)
    · simp only [Bool.and_eq_true, decide_eq_true_eq] at h
      obtain ⟨⟨⟨⟨rfl, h1⟩, h2⟩, h3⟩, h4⟩ := h
      exact e_tupOf C (has_mem h1) h2 h3 (sndE a X WX sc C _ h4)
    · simp only [Bool.and_eq_true, decide_eq_true_eq] at h
      obtain ⟨⟨⟨⟨⟨⟨⟨rfl, rfl⟩, h1⟩, h2⟩, h3⟩, h4⟩, h5⟩, h6⟩ := h
      exact e_lr1 C (has_mem h1) (has_mem h2) h3 h4 h5 (sndE a X WX sc C _ h6)
    · simp only [Bool.and_eq_true, decide_eq_true_eq] at h
      obtain ⟨⟨⟨⟨h1, h2⟩, h3⟩, h4⟩, h5⟩ := h
      exact bi_call C h1 h2 h3 (by simp [noStars, h4]) (a_cons h4 (sndE a X WX sc C _ h5) a_nil)
    · cases h
  | .bi b (.cons a (.cons c .nil)), X, WX, sc, C, e, h => by
    simp only [ckE] at h
    split at h
    · simp only [Bool.and_eq_true, decide_eq_true_eq] at h
      obtain ⟨⟨⟨⟨⟨⟨⟨⟨⟨rfl, rfl⟩, h1⟩, h2⟩, h3⟩, h4⟩, h5⟩, h6⟩, h7⟩, h8⟩ := h
      exact e_lr2 C (has_mem h1) (has_mem h2) h3 h4 h5 h6 (sndE a X WX sc C _ h7) (sndE c X WX sc C _ h8)
    · simp only [Bool.and_eq_true, decide_eq_true_eq] at h
      obtain ⟨⟨⟨⟨⟨⟨h1, h2⟩, h3⟩, h4⟩, h5⟩, h6⟩, h7⟩ := h
      exact bi_call C h1 h2 h3 (by simp [noStars, h4, h5]) (a_cons h4 (sndE a X WX sc C _ h6) (a_cons h5 (sndE c X WX sc C _ h7) a_nil))
    · cases h
  | .lc elt t it, X, WX, sc, C, e, h => by
    simp only [ckE] at h
    split at h
    · simp only [Bool.and_eq_true, names2, decide_eq_true_eq] at h
      obtain ⟨⟨⟨⟨⟨h1, h2⟩, h3⟩, h4⟩, h5⟩, h6⟩ := h
      exact e_lc C (sndI true it X WX sc C _ _ h5) h1 h2 h3 (fun s H D cl fp => sndE elt _ WXF _ (C.blk s H D cl fp) _ h6) h4
    · cases h
  | .lcf elt t it c, X, WX, sc, C, e, h => by
    simp only [ckE] at h
    split at h
    · simp only [Bool.and_eq_true, names2, decide_eq_true_eq] at h
      obtain ⟨⟨⟨⟨⟨⟨h1, h2⟩, h3⟩, h4⟩, h5⟩, h6⟩, h7⟩ := h
      exact e_lcf C (sndI true it X WX sc C _ _ h5) h1 h2 h3 (fun s H D cl fp => sndE elt _ WXF _ (C.blk s H D cl fp) _ h7) (fun s H D cl fp => sndC c _ WXF _ (C.blk s H D cl fp) _ h6) h4
    · cases h
  | .chn o1 o2 a b c, X, WX, sc, C, e, h => by
    simp only [ckE] at h
    split at h
    · simp only [Bool.and_eq_true, sameC, decide_eq_true_eq] at h
      obtain ⟨⟨⟨⟨⟨rfl, rfl⟩, hs⟩, h1⟩, h2⟩, h3⟩ := h
      exact e_chn C hs (sndE a X WX sc C _ h1) (sndE b X WX sc C _ h2) (sndE c X WX sc C _ h3)
    · cases h
  | .chn3 o1 o2 o3 a b c d, X, WX, sc, C, e, h => by
    simp only [ckE] at h
    split at h
    · simp only [Bool.and_eq_true, sameC, decide_eq_true_eq] at h
      obtain ⟨⟨⟨⟨⟨⟨⟨rfl, rfl⟩, rfl⟩, hs⟩, h1⟩, h2⟩, h3⟩, h4⟩ := h
      exact e_chn3 C hs (sndE a X WX sc C _ h1) (sndE b X WX sc C _ h2) (sndE c X WX sc C _ h3) (sndE d X WX sc C _ h4)
    · cases h
  | .fld f a, X, WX, sc, C, e, h => by
    simp only [ckE] at h
    split at h
    · simp only [Bool.and_eq_true, decide_eq_true_eq] at h
      exact e_fld C h.1.1 h.1.2 (sndE a X WX sc C _ h.2)
    · cases h
  | .mvf f a, X, WX, sc, C, e, h => by
    simp only [ckE] at h
    split at h
    · simp only [Bool.and_eq_true, decide_eq_true_eq] at h
      exact e_mvf C h.1.1 h.1.2 (sndE a X WX sc C _ h.2)
    · cases h
  | .shf f a, X, WX, sc, C, e, h => by
    simp only [ckE] at h
    split at h
    · simp only [Bool.and_eq_true, decide_eq_true_eq] at h
      exact e_shf C h.1.1 h.1.2 (sndE a X WX sc C _ h.2)
    · cases h
  | .count a b, X, WX, sc, C, e, h => by
    simp only [ckE] at h
    split at h
    · simp only [Bool.and_eq_true, decide_eq_true_eq] at h
      obtain ⟨⟨⟨⟨⟨rfl, h1⟩, h2⟩, h3⟩, h4⟩, h5⟩ := h
      exact e_count C h1 h2 h3 (sndE a X WX sc C _ h4) (sndE b X WX sc C _ h5)
    · cases h
  | .index a b, X, WX, sc, C, e, h => by
    simp only [ckE] at h
    split at h
    · simp only [Bool.and_eq_true, decide_eq_true_eq] at h
      obtain ⟨⟨⟨⟨⟨rfl, h1⟩, h2⟩, h3⟩, h4⟩, h5⟩ := h
      exact e_index C h1 h2 h3 (sndE a X WX sc C _ h4) (sndE b X WX sc C _ h5)
    · cases h
  | .meth m a es, X, WX, sc, C, e, h => by
    simp only [ckE] at h
    split at h
    · rename_i y x ap xs p
      simp only [Bool.and_eq_true, decide_eq_true_eq] at h
      obtain ⟨⟨⟨⟨⟨⟨h1, h2⟩, h3⟩, h4⟩, h5⟩, h6⟩, h7⟩ := h
      cases xs with
      | nil =>
        cases es with
        | nil => exact e_meth0 C hfin h1 h2 h3 (sndE a X WX sc C _ h6)
        | cons _ _ => simp [ckA] at h7
      | cons z zs => exact e_meth C hfin h1 h2 h3 h4 h5 (sndE a X WX sc C _ h6) (sndA es X WX sc C _ h7)
    · cases h
  | .make c es, X, WX, sc, C, e, h => by
    simp only [ckE] at h
    split at h
    · simp only [Bool.and_eq_true, decide_eq_true_eq] at h
      exact e_make C hfin h.1.1.1 h.1.1.2 h.1.2 (sndA es X WX sc C _ h.2)
    · cases h
  | .bi1 b a, X, WX, sc, C, e, h => by
    simp only [ckE] at h
    split at h
    · simp only [Bool.and_eq_true, decide_eq_true_eq] at h
      obtain ⟨⟨⟨⟨h1, h2⟩, h3⟩, h4⟩, h5⟩ := h
      exact bi1_call C h1 h2 h3 h4 (sndE a X WX sc C _ h5)
    · cases h
  | .rev _, X, WX, sc, C, e, h => by simp [ckE] at h
  | .bi _ .nil, X, WX, sc, C, e, h => by simp [ckE] at h
  | .bi _ (.cons _ (.cons _ (.cons _ _))), X, WX, sc, C, e, h => by simp [ckE] at h
  | .get1 a b, X, WX, sc, C, e, h => by
    simp only [ckE] at h
    split at h
    · simp only [Bool.and_eq_true, decide_eq_true_eq] at h
      obtain ⟨⟨⟨⟨⟨rfl, h1⟩, h2⟩, h3⟩, h4⟩, h5⟩ := h
      exact e_get1 C h1 h2 h3 (sndE a X WX sc C _ h4) (sndE b X WX sc C _ h5)
    · cases h
  | .get2 a b c, X, WX, sc, C, e, h => by
    simp only [ckE] at h
    split at h
    · simp only [Bool.and_eq_true, decide_eq_true_eq] at h
      obtain ⟨⟨⟨⟨⟨⟨⟨rfl, h1⟩, h2⟩, h3⟩, h4⟩, h5⟩, h6⟩, h7⟩ := h
      exact e_get2 C h1 h2 h3 h4 (sndE a X WX sc C _ h5) (sndE b X WX sc C _ h6) (sndE c X WX sc C _ h7)
    · cases h
  | .items _, X, WX, sc, C, e, h => by simp [ckE] at h
  | .join _ _, X, WX, sc, C, e, h => by simp [ckE] at h
  | .split _ _, X, WX, sc, C, e, h => by simp [ckE] at h
  | .box _, X, WX, sc, C, e, h => by simp [ckE] at h
  | .frz _, X, WX, sc, C, e, h => by simp [ckE] at h
  | .pop0 _, X, WX, sc, C, e, h => by simp [ckE] at h
theorem sndA : ∀ (es : CEs) (X : L2.Cx) (WX : WXn) (sc : PySem.Scope) (_ : Ctx X T G Φ g sc N exc WX) (e : List PySem.Expr), ckA g N es sc e = true → PAe X T WX e (evA G Φ es)
  | .nil, X, WX, sc, C, e, h => by
    simp only [ckA] at h
    split at h
    · exact a_nil
    · cases h
  | .cons a r, X, WX, sc, C, e, h => by
    simp only [ckA] at h
    split at h
    · simp only [Bool.and_eq_true] at h
      exact a_cons h.1.1 (sndE a X WX sc C _ h.1.2) (sndA r X WX sc C _ h.2)
    · cases h
theorem sndL : ∀ (es : CEs) (X : L2.Cx) (WX : WXn) (sc : PySem.Scope) (_ : Ctx X T G Φ g sc N exc WX) (e : List PySem.Expr), ckA g N es sc e = true → Alls X T WX G Φ es e
  | .nil, X, WX, sc, C, e, h => by
    simp only [ckA] at h
    split at h
    · exact rfl
    · cases h
  | .cons a r, X, WX, sc, C, e, h => by
    simp only [ckA] at h
    split at h
    · simp only [Bool.and_eq_true] at h
      exact ⟨_, _, rfl, sndE a X WX sc C _ h.1.2, sndL r X WX sc C _ h.2⟩
    · cases h
theorem sndC : ∀ (ct : CT) (X : L2.Cx) (WX : WXn) (sc : PySem.Scope) (_ : Ctx X T G Φ g sc N exc WX) (e : PySem.Expr), ckC g N ct sc e = true → PTe X T WX e false (evT G Φ ct)
  | .cm op a b, X, WX, sc, C, e, h => by
    simp only [ckC] at h
    split at h
    · simp only [Bool.and_eq_true, sameC, decide_eq_true_eq] at h
      obtain ⟨⟨⟨rfl, hs⟩, h1⟩, h2⟩ := h
      exact t_cmp C hs (sndE a X WX sc C _ h1) (sndE b X WX sc C _ h2)
    · cases h
  | .chn o1 o2 a b c, X, WX, sc, C, e, h => by
    simp only [ckC] at h
    split at h
    · simp only [Bool.and_eq_true, sameC, decide_eq_true_eq] at h
      obtain ⟨⟨⟨⟨⟨rfl, rfl⟩, hs⟩, h1⟩, h2⟩, h3⟩ := h
      exact t_chn C hs (sndE a X WX sc C _ h1) (sndE b X WX sc C _ h2) (sndE c X WX sc C _ h3)
    · cases h
  | .chn3 o1 o2 o3 a b c d, X, WX, sc, C, e, h => by
    simp only [ckC] at h
    split at h
    · simp only [Bool.and_eq_true, sameC, decide_eq_true_eq] at h
      obtain ⟨⟨⟨⟨⟨⟨⟨rfl, rfl⟩, rfl⟩, hs⟩, h1⟩, h2⟩, h3⟩, h4⟩ := h
      exact t_chn3 C hs (sndE a X WX sc C _ h1) (sndE b X WX sc C _ h2) (sndE c X WX sc C _ h3) (sndE d X WX sc C _ h4)
    · cases h
  | .e a, X, WX, sc, C, e, h => by
    simp only [ckC, Bool.and_eq_true] at h
    exact t_val h.1 (sndE a X WX sc C _ h.2)
  | .and a b, X, WX, sc, C, e, h => by
    simp only [ckC] at h
    split at h
    · simp only [Bool.and_eq_true, decide_eq_true_eq] at h
      obtain ⟨⟨rfl, h1⟩, h2⟩ := h
      split at h2
      · exact (w_and (sndC a X WX sc C _ h1) (L2.pw_and1 (sndC b X WX sc C _ h2))).pt
      · exact (w_and (sndC a X WX sc C _ h1) (pw_of (sndC b X WX sc C _ h2))).pt
    · cases h
  | .or a b, X, WX, sc, C, e, h => by
    simp only [ckC] at h
    split at h
    · simp only [Bool.and_eq_true, decide_eq_true_eq] at h
      obtain ⟨⟨rfl, h1⟩, h2⟩ := h
      split at h2
      · exact (w_or (sndC a X WX sc C _ h1) (L2.pw_or1 (sndC b X WX sc C _ h2))).pt
      · exact (w_or (sndC a X WX sc C _ h1) (pw_of (sndC b X WX sc C _ h2))).pt
    · cases h
  | .not a, X, WX, sc, C, e, h => by
    simp only [ckC] at h
    split at h
    · simp only [Bool.and_eq_true, decide_eq_true_eq] at h
      obtain ⟨rfl, h1⟩ := h
      exact t_not (sndC a X WX sc C _ h1)
    · cases h
  | .ite c a b, X, WX, sc, C, e, h => by
    simp only [ckC] at h
    split at h
    · simp only [Bool.and_eq_true] at h
      exact t_ite (sndC c X WX sc C _ h.1.1) (sndC a X WX sc C _ h.1.2) (sndC b X WX sc C _ h.2)
    · cases h
theorem sndI : ∀ (b : Bool) (ci : CI) (X : L2.Cx) (WX : WXn) (sc : PySem.Scope) (_ : Ctx X T G Φ g sc N exc WX) (tg e : PySem.Expr), ckI g N ci sc tg e = true → PIe X T WX tg e b (evI G Φ b ci)
  | b, .seq a, X, WX, sc, C, tg, e, h => by
    simp only [ckI] at h
    exact i_seq (sndE a X WX sc C _ h)
  | b, .rng1 a, X, WX, sc, C, tg, e, h => by
    simp only [ckI] at h
    split at h
    · simp only [Bool.and_eq_true, decide_eq_true_eq] at h
      obtain ⟨⟨⟨⟨rfl, h1⟩, h2⟩, h3⟩, h4⟩ := h
      exact i_rng1 C (has_mem h1) h2 h3 (sndE a X WX sc C _ h4)
    · cases h
  | b, .rng2 a c, X, WX, sc, C, tg, e, h => by
    simp only [ckI] at h
    split at h
    · simp only [Bool.and_eq_true, decide_eq_true_eq] at h
      obtain ⟨⟨⟨⟨⟨⟨rfl, h1⟩, h2⟩, h3⟩, h4⟩, h5⟩, h6⟩ := h
      exact i_rng2 C (has_mem h1) h2 h3 h4 (sndE a X WX sc C _ h5) (sndE c X WX sc C _ h6)
    · cases h
  | b, .enum a, X, WX, sc, C, tg, e, h => by
    simp only [ckI, Bool.and_eq_true] at h
    obtain ⟨ht, h⟩ := h
    split at h
    · simp only [Bool.and_eq_true, decide_eq_true_eq] at h
      obtain ⟨⟨⟨⟨rfl, h1⟩, h2⟩, h3⟩, h4⟩ := h
      cases tg <;> first
        | exact i_enum C (has_mem h1) h2 h3 (sndE a X WX sc C _ h4)
        | cases ht
    · cases h
  | b, .zip a c, X, WX, sc, C, tg, e, h => by
    simp only [ckI, Bool.and_eq_true] at h
    obtain ⟨ht, h⟩ := h
    split at h
    · simp only [Bool.and_eq_true, decide_eq_true_eq] at h
      obtain ⟨⟨⟨⟨⟨⟨rfl, h1⟩, h2⟩, h3⟩, h4⟩, h5⟩, h6⟩ := h
      cases tg <;> first
        | exact i_zip C (has_mem h1) h2 h3 h4 (sndE a X WX sc C _ h5) (sndE c X WX sc C _ h6)
        | cases ht
    · cases h
end
end
end SR

set_option linter.unusedVariables false
set_option maxRecDepth 100000
/-! Statements. -/
namespace SR
open PySem (Addr Str Value PyData Heap)
open L2 (V Hp HO Key upd Rd SqL SqT)
section
variable (K : PySem.W.Frag) (T : Tb) (WX : WXn)
/-- what is wanted behind a statement, of what it comes to -/
def KS (W : Wd) (H : Hp) (F : List Addr) (D : L2.Ends) : SRes → Prop
  | .nx r' S' => ∀ W' H' σ' A', Grow W H W' H' → Fr H H' F false → SlsR K W' H' r' σ' A' → Ok K T W' H' S' (A' ++ F) → D.nx σ' H'
  | .brk r' S' => ∀ W' H' σ' A', Grow W H W' H' → Fr H H' F false → SlsR K W' H' r' σ' A' → Ok K T W' H' S' (A' ++ F) → D.bk σ' H'
  | .cnt r' S' => ∀ W' H' σ' A', Grow W H W' H' → Fr H H' F false → SlsR K W' H' r' σ' A' → Ok K T W' H' S' (A' ++ F) → D.ct σ' H'
  | .ret v m S' => m.fin = true ∧ ∀ W' H' x, Grow W H W' H' → Fr H H' F false → Held K W' H' F m v x → Ok K T W' H' S' (ownA m x ++ F) → D.rt x H'
  | .exc c r' S' => ∀ W' H' σ' A', Grow W H W' H' → Fr H H' F false → SlsR K W' H' r' σ' A' → Ok K T W' H' S' (A' ++ F) → WX c σ' H'
  | .bad => False
def TIs (ex : Env → Sto → SRes) : L2.TS := fun D σ H => ∃ W S r A F, SlsR K W H r σ A ∧ Ok K T W H S (A ++ F) ∧ KS K T WX W H F D (ex r S)
end
abbrev PSe (X : L2.Cx) (T : Tb) (WX : WXn) (st : PySem.Stmt) (ex : Env → Sto → SRes) : Prop := L2.PS X st (TIs X.K T WX ex)
abbrev PBe (X : L2.Cx) (T : Tb) (WX : WXn) (st : List PySem.Stmt) (ex : Env → Sto → SRes) : Prop := L2.PSs X st (TIs X.K T WX ex)
theorem ps_imp {X : L2.Cx} {st : PySem.Stmt} {t t' : L2.TS} (h : L2.PS X st t) (i : ∀ D σ H, t' D σ H → t D σ H) : L2.PS X st t' := ⟨fun pins s σ H D I q => h.run pins s σ H D I (i D σ H q)⟩
theorem pss_imp {X : L2.Cx} {st : List PySem.Stmt} {t t' : L2.TS} (h : L2.PSs X st t) (i : ∀ D σ H, t' D σ H → t D σ H) : L2.PSs X st t' := ⟨fun pins s σ H D I q => h.run pins s σ H D I (i D σ H q)⟩
/-- a def's own context -/
structure SCtx (X : L2.Cx) (T : Tb) (G : Prg) (Φ : Phi) (g : Sg) (sc : PySem.Scope) (N : List Str) (exc : Nat → Value) (WX : WXn) : Prop extends Ctx X T G Φ g sc N exc WX where
  po : PySem.PassesOwn (PySem.model X.prog X.w) X.A X.env X.xe
  hsc : X.env.scope = sc
  kind : sc.kind = .function
section
variable {X : L2.Cx} {T : Tb} {G : Prg} {Φ : Phi} {g : Sg} {sc : PySem.Scope} {N : List Str} {exc : Nat → Value} {WX : WXn}
theorem KS.step {K : PySem.W.Frag} {W W1 : Wd} {H H1 : Hp} {F : List Addr} {D : L2.Ends} {R : SRes} (q : KS K T WX W H F D R) (gr : Grow W H W1 H1) (f : Fr H H1 F false) : KS K T WX W1 H1 F D R := by
  cases R with
  | bad => exact q.elim
  | nx r S => exact fun W' H' σ' A' g' f' => q W' H' σ' A' (gr.trans g') (fun a o e z => f' a o (f a o e z) z)
  | brk r S => exact fun W' H' σ' A' g' f' => q W' H' σ' A' (gr.trans g') (fun a o e z => f' a o (f a o e z) z)
  | cnt r S => exact fun W' H' σ' A' g' f' => q W' H' σ' A' (gr.trans g') (fun a o e z => f' a o (f a o e z) z)
  | exc c r S => exact fun W' H' σ' A' g' f' => q W' H' σ' A' (gr.trans g') (fun a o e z => f' a o (f a o e z) z)
  | ret v m S => exact ⟨q.1, fun W' H' x g' f' => q.2 W' H' x (gr.trans g') (fun a o e z => f' a o (f a o e z) z)⟩
theorem frA {H H1 : Hp} {A F : List Addr} {s : Bool} (f : Fr H H1 (A ++ F) s) : Fr H H1 F false := fun a o e z => f a o e (z.imp (fun z => List.mem_append_right _ z) no_t)
/-- an expression, then what the statement makes of it -/
theorem TIs.expr {K : PySem.W.Frag} {s : Bool} {ev : Env → Sto → Res} {k : PV → Md → Env → Sto → SRes} {D : L2.Ends} {σ : L2.St} {H : Hp} {Q : L2.VK} (h : TIs K T WX (fun r S => (ev r S).bindS r fun v m S1 => k v m r S1) D σ H)
    (hk : ∀ W S r A F v m x H, SlsR K W H r σ A → Held K W H (A ++ F) m v x → Ok K T W H S (ownA m x ++ (A ++ F)) → KS K T WX W H F D (k v m r S) → Q x H) : TIe K T WX s ev σ H Q := by
  obtain ⟨W, S, r, A, F, sl, ok, q⟩ := h
  have a0 : At K T W S r A (A ++ F) σ H := ⟨sl, fun a ha => List.mem_append_left _ ha, ok⟩
  refine ⟨W, S, r, A, A ++ F, a0, ?_⟩
  simp only at q
  cases c : ev r S with
  | bad => rw [c] at q; exact q.elim
  | exc x S' =>
    rw [c] at q
    exact fun W' H' g' f' ok' => q W' H' σ A g' (frA f') (a0.same g' f' ok').sl ok'
  | ok v m S1 =>
    rw [c] at q
    simp only [Res.bindS_ok] at q
    exact fun W1 H1 x g1 f1 hx ok1 => hk W1 S1 r A F v m x H1 (a0.next g1 f1 ok1).sl hx ok1 (q.step g1 (frA f1))
/-! ### blocks -/
theorem b_nil : PBe X T WX [] (exB G Φ .nil) := pss_imp L2.pss_nil fun D σ H ⟨W, S, r, A, F, sl, ok, q⟩ => q W H σ A (Grow.refl _ _) (Fr.refl _ _ _) sl ok
theorem tis_bind {K : PySem.W.Frag} {e1 e2 : Env → Sto → SRes} {D : L2.Ends} {σ : L2.St} {H : Hp} (h : TIs K T WX (fun r S => (e1 r S).bind fun r1 S1 => e2 r1 S1) D σ H) : TIs K T WX e1 { D with nx := TIs K T WX e2 D } σ H := by
  obtain ⟨W, S, r, A, F, sl, ok, q⟩ := h
  refine ⟨W, S, r, A, F, sl, ok, ?_⟩
  simp only at q
  cases c : e1 r S with
  | bad => rw [c] at q; exact q
  | brk _ _ => rw [c] at q; exact q
  | cnt _ _ => rw [c] at q; exact q
  | ret _ _ _ => rw [c] at q; exact q
  | exc _ _ _ => rw [c] at q; exact q
  | nx r1 S1 =>
    rw [c] at q
    simp only [SRes.bind_nx] at q
    exact fun W' H' σ' A' g' f' sl' ok' => ⟨W', S1, r1, A', F, sl', ok', q.step g' f'⟩
theorem b_cons {s : CS} {b : CSs} {st : PySem.Stmt} {rest : List PySem.Stmt} (h1 : PSe X T WX st (exS G Φ s)) (h2 : PBe X T WX rest (exB G Φ b)) : PBe X T WX (st :: rest) (exB G Φ (.cons s b)) := by
  refine pss_imp (L2.pss_cons h1 h2) fun D σ H h => tis_bind (e1 := exS G Φ s) (e2 := exB G Φ b) ?_
  have e : exB G Φ (.cons s b) = fun r S => (exS G Φ s r S).bind fun r1 S1 => exB G Φ b r1 S1 := by funext r S; simp only [exB]
  rw [e] at h
  exact h
/-- a word for the evaluator alone -/
theorem b_ghost {s : CS} {b : CSs} {rest : List PySem.Stmt} (hg : ∀ (K : PySem.W.Frag) D σ H, TIs K T WX (exS G Φ s) D σ H → D.nx σ H) (h2 : PBe X T WX rest (exB G Φ b)) : PBe X T WX rest (exB G Φ (.cons s b)) := by
  refine pss_imp h2 fun D σ H h => ?_
  have e : exB G Φ (.cons s b) = fun r S => (exS G Φ s r S).bind fun r1 S1 => exB G Φ b r1 S1 := by funext r S; simp only [exB]
  rw [e] at h
  exact hg X.K { D with nx := TIs X.K T WX (exB G Φ b) D } σ H (tis_bind h)
theorem s_brk {pos : PySem.Pos} : PSe X T WX (.Break pos) (exS G Φ .brk) := ps_imp L2.ps_break fun D σ H ⟨W, S, r, A, F, sl, ok, q⟩ => q W H σ A (Grow.refl _ _) (Fr.refl _ _ _) sl ok
theorem s_cnt {pos : PySem.Pos} : PSe X T WX (.Continue pos) (exS G Φ .cnt) := ps_imp L2.ps_continue fun D σ H ⟨W, S, r, A, F, sl, ok, q⟩ => q W H σ A (Grow.refl _ _) (Fr.refl _ _ _) sl ok
theorem s_pass {pos : PySem.Pos} : PSe X T WX (.Pass pos) (exS G Φ .pass) := ps_imp L2.ps_pass fun D σ H ⟨W, S, r, A, F, sl, ok, q⟩ => q W H σ A (Grow.refl _ _) (Fr.refl _ _ _) sl ok
theorem s_retn {pos : PySem.Pos} : PSe X T WX (.Return none pos) (exS G Φ .retn) := ps_imp L2.ps_retN fun D σ H ⟨W, S, r, A, F, sl, ok, q⟩ => q.2 W H .non (Grow.refl _ _) (Fr.refl _ _ _) (by show RepV _ _ _ _ _; simp only [RepV]) ok.drop
theorem ks_drop {K : PySem.W.Frag} {W : Wd} {S : Sto} {A F : List Addr} {m : Md} {x : V} {H : Hp} (ok : Ok K T W H S (ownA m x ++ (A ++ F))) : Ok K T W H S (A ++ F) := ok.drop
theorem s_ret {e : CE} {pe : PySem.Expr} {pos : PySem.Pos} (h : PEe X T WX pe (simpE e) (evE G Φ e)) : PSe X T WX (.Return (some pe) pos) (exS G Φ (.ret e)) := by
  refine ps_imp (L2.ps_ret h) fun D σ H h => ?_
  refine TIs.expr (k := fun v m _ S1 => retR v m S1) (by simpa only [exS] using h) fun W S r A F v m x H sl hx ok q => ?_
  cases m with
  | sh => exact q.2 W H x (Grow.refl _ _) (Fr.refl _ _ _) hx ok.drop.drop
  | own =>
    exact q.2 W H x (Grow.refl _ _) (Fr.refl _ _ _) hx ok.mid
  | bor => exact q.elim
  | brf => exact q.elim
theorem mem_split {α : Type} {a : α} : ∀ {l : List α}, a ∈ l → ∃ p q, l = p ++ a :: q := fun h => List.append_of_mem h
theorem s_retv (C : Ctx X T G Φ g sc N exc WX) {i : Nat} {x : Str} {p pos : PySem.Pos} (hi : N[i]? = some x) (hv : visB sc x = true) (hp : plain x = true) : PSe X T WX (.Return (some (.Name x p)) pos) (exS G Φ (.retv i)) := by
  unfold plain at hp
  simp only [Bool.and_eq_true, Bool.not_eq_true'] at hp
  refine ps_imp (L2.ps_ret (L2.pe_var (i := i) (by rw [C.hN]; exact hi) (vis_of C hv) hp.1 hp.2)) fun D σ H h => ?_
  obtain ⟨W, S, r, A, F, sl, ok, q⟩ := h
  simp only [exS] at q
  split at q
  · rename_i v hr
    obtain ⟨o, B, e1, ⟨_, z, rfl, rep⟩, _⟩ := sl.get hr
    exact ⟨z, e1, q.2 W H z (Grow.refl _ _) (Fr.refl _ _ _) rep ok.drop⟩
  · rename_i v hr
    obtain ⟨o, B, e1, ⟨b, rfl, rfl, rep⟩, hb⟩ := sl.get hr
    refine ⟨_, e1, q.2 W H _ (Grow.refl _ _) (Fr.refl _ _ _) ⟨b, rfl, rep⟩ ?_⟩
    obtain ⟨P, R, rfl⟩ := mem_split (hb b (by simp))
    refine Ok.mid (A := [b]) (B := P ++ R) (ok.perm ?_)
    show ((P ++ b :: R) ++ F).Perm ([b] ++ ((P ++ R) ++ F))
    simp only [List.append_assoc, List.cons_append, List.nil_append]
    exact List.perm_middle
  · exact q.elim
theorem s_ife {c : CT} {a b : CSs} {pc : PySem.Expr} {pa pb : List PySem.Stmt} {pos : PySem.Pos} (hc : PTe X T WX pc false (evT G Φ c)) (ha : PBe X T WX pa (exB G Φ a)) (hb : PBe X T WX pb (exB G Φ b)) : PSe X T WX (.If pc pa pb pos) (exS G Φ (.ife c a b)) := by
  refine ps_imp (L2.ps_if hc ha hb) fun D σ H h => ?_
  obtain ⟨W, S, r, A, F, sl, ok, q⟩ := h
  have a0 : At X.K T W S r A (A ++ F) σ H := ⟨sl, fun a ha => List.mem_append_left _ ha, ok⟩
  refine ⟨W, S, r, A, A ++ F, a0, ?_⟩
  simp only [exS] at q
  cases c1 : evT G Φ c r S with
  | bad => rw [c1] at q; exact q.elim
  | exc x S' => rw [c1] at q; exact fun W' H' g' f' ok' => q W' H' σ A g' (frA f') (a0.same g' f' ok').sl ok'
  | ok k S1 =>
    rw [c1] at q
    simp only [TRes.bindS_ok] at q
    intro W1 H1 g1 f1 ok1
    cases k with
    | true => exact ⟨W1, S1, r, A, F, (a0.same g1 f1 ok1).sl, ok1, q.step g1 (frA f1)⟩
    | false => exact ⟨W1, S1, r, A, F, (a0.same g1 f1 ok1).sl, ok1, q.step g1 (frA f1)⟩
/-- a value into a slot -/
theorem set_slot {K : PySem.W.Frag} {W : Wd} {H : Hp} {S : Sto} {r : Env} {σ : L2.St} {A F : List Addr} {v : PV} {m : Md} {x : V} {i : Nat} {D : L2.Ends} (sl : SlsR K W H r σ A) (hx : Held K W H (A ++ F) m v x) (ok : Ok K T W H S (ownA m x ++ (A ++ F)))
    (q : KS K T WX W H F D (nxO S (asgG S (.nm i) v m r))) : D.nx (σ.set i (some x)) H := by
  have hl := sl.len
  cases m with
  | sh =>
    simp only [asgG, setS] at q
    split at q
    · rename_i hi
      obtain ⟨A', sub, s'⟩ := sl.setSh hx hi
      refine q W H _ A' (Grow.refl _ _) (Fr.refl _ _ _) s' ?_
      obtain ⟨B, h1, h2, h3⟩ := ok.st
      refine ⟨⟨B, h1, ?_, fun a ha => h3 a ?_⟩, ok.shd⟩
      · exact h2.sublist ((sub.append_right F).append_right B)
      · exact ((sub.append_right F).append_right B).subset ha
    · exact q.elim
  | own =>
    obtain ⟨a, rfl, ow⟩ := hx
    simp only [asgG, setS] at q
    split at q
    · rename_i hi
      obtain ⟨A1, A0, A2, rfl, s'⟩ := SlsR.set (x := .own v) (o := some (.ref a)) (B := [a]) ⟨a, rfl, rfl, ow⟩ sl hi
      refine q W H _ _ (Grow.refl _ _) (Fr.refl _ _ _) s' ?_
      have ok' : Ok K T W H S ([a] ++ (A1 ++ (A0 ++ A2) ++ F)) := ok
      obtain ⟨B, h1, h2, h3⟩ := ok'.st
      have sub : (A1 ++ (A2 ++ F)).Sublist (A1 ++ (A0 ++ A2) ++ F) := by
        rw [List.append_assoc, List.append_assoc]
        exact (List.Sublist.refl A1).append (List.sublist_append_right A0 (A2 ++ F))
      have ok2 : Ok K T W H S ([a] ++ (A1 ++ (A2 ++ F))) := ⟨⟨B, h1, h2.sublist (((List.Sublist.refl [a]).append sub).append_right B), fun b hb => h3 b ((((List.Sublist.refl [a]).append sub).append_right B).subset hb)⟩, ok'.shd⟩
      refine ok2.perm ?_
      show (a :: (A1 ++ (A2 ++ F))).Perm ((A1 ++ (a :: A2)) ++ F)
      simp only [List.append_assoc, List.cons_append]
      exact List.perm_middle.symm
    · exact q.elim
  | bor => exact q.elim
  | brf => exact q.elim
/-- no comprehension, no tuple written out -/
def plainV : PySem.Expr → Bool
  | .ListComp _ _ _ _ => false
  | .SetComp _ _ _ _ => false
  | .DictComp _ _ _ _ _ => false
  | .Tuple _ _ _ => false
  | _ => true
def noComp : PySem.Expr → Bool
  | .ListComp _ _ _ _ => false
  | .SetComp _ _ _ _ => false
  | .DictComp _ _ _ _ _ => false
  | _ => true
theorem swaps_of {e : PySem.Expr} {t : Option PySem.Expr} {l : Nat} {env : PySem.Env} (h : noComp e = true) : PySem.swapsWith e t l env = pure false := by
  cases e <;> first | rfl | cases h
theorem s_asg (C : Ctx X T G Φ g sc N exc WX) {i : Nat} {x : Str} {e : CE} {pe : PySem.Expr} {p pos : PySem.Pos} (hi : N[i]? = some x) (hl : locB sc x = true) (hc : noComp pe = true) (h : PEe X T WX pe (simpE e) (evE G Φ e)) : PSe X T WX (.Assign [.Name x p] pe pos) (exS G Φ (.asg (.nm i) e)) := by
  refine ps_imp (L2.ps_set (i := i) (by rw [C.hN]; exact C.nd) (by rw [C.hN]; exact hi) (loc_of C hl) h (swaps_of hc) (C.fnl _ hl)) fun D σ H h => ?_
  refine TIs.expr (k := fun v m r S1 => nxO S1 (asgG S1 (.nm i) v m r)) (by simpa only [exS] using h) fun W S r A F v m x H sl hx ok q => ?_
  exact set_slot sl hx ok q
theorem s_expr {e : CE} {pe : PySem.Expr} {pos : PySem.Pos} (hc : noComp pe = true) (h : PEe X T WX pe (simpE e) (evE G Φ e)) : PSe X T WX (.Expr pe pos) (exS G Φ (.expr e)) := by
  refine ps_imp (L2.ps_expr h (swaps_of hc)) fun D σ H h => ?_
  refine TIs.expr (k := fun _ _ r S1 => .nx r S1) (by simpa only [exS] using h) fun W S r A F v m x H sl hx ok q => ?_
  exact q W H σ A (Grow.refl _ _) (Fr.refl _ _ _) sl ok.drop
end
end SR

set_option linter.unusedVariables false
set_option maxRecDepth 100000
/-! More statements: targets in a row, lists that grow, loops. -/
namespace SR
open PySem (Addr Str Value PyData Heap)
open L2 (V Hp HO Key upd Rd SqL SqT)
section
variable {K : PySem.W.Frag} {T : Tb} {WX : WXn}
theorem SlsR.at {W : Wd} {H : Hp} : ∀ {r : Env} {os : List (Option V)} {A : List Addr} {i : Nat} {x : Sl}, SlsR K W H r os A → r[i]? = some x →
    ∃ o A1 A0 A2, os[i]? = some o ∧ A = A1 ++ (A0 ++ A2) ∧ SlR K W H x o A0 ∧ ∀ W' H' x' o' A0', Grow W H W' H' → (∀ b ∈ A1 ++ A2, H' b = H b) → SlR K W' H' x' o' A0' → SlsR K W' H' (r.set i x') (os.set i o') (A1 ++ (A0' ++ A2))
  | [], _, _, _, _, _, e => by simp at e
  | y :: r, os, A, 0, x, h, e => by
    obtain ⟨o, t, B, C, rfl, rfl, h1, h2⟩ := h
    simp at e
    subst e
    exact ⟨o, [], B, C, rfl, rfl, h1, fun W' H' x' o' A0' g k hx => ⟨o', t, A0', C, rfl, rfl, hx, h2.grow g fun b hb => k b (by simp [hb])⟩⟩
  | y :: r, os, A, i + 1, x, h, e => by
    obtain ⟨o, t, B, C, rfl, rfl, h1, h2⟩ := h
    obtain ⟨p, A1, A0, A2, e1, rfl, h3, h4⟩ := SlsR.at (i := i) h2 (by simpa using e)
    exact ⟨p, B ++ A1, A0, A2, by simpa using e1, by simp, h3, fun W' H' x' o' A0' g k hx => ⟨o, t.set i o', B, A1 ++ (A0' ++ A2), rfl, by simp, h1.grow g fun b hb => k b (by simp [hb]), h4 W' H' x' o' A0' g (fun b hb => k b (by simp at hb ⊢; rcases hb with z | z <;> simp [z])) hx⟩⟩
theorem set_same {α : Type} {l : List α} {i : Nat} {x : α} (h : l[i]? = some x) : l.set i x = l := by
  refine List.ext_getElem? fun j => ?_
  by_cases e : i = j
  · subst e
    rw [List.getElem?_set_self (List.getElem?_eq_some_iff.mp h).1, h]
  · rw [List.getElem?_set_ne e]
theorem perm_front {A1 A2 F : List Addr} {a : Addr} : ((A1 ++ ([a] ++ A2)) ++ F).Perm (a :: (A1 ++ (A2 ++ F))) := by
  simp only [List.append_assoc, List.cons_append, List.nil_append]
  exact List.perm_middle
/-- a slot's own list is written -/
theorem slot_write {W : Wd} {H : Hp} {S : Sto} {r : Env} {σ : L2.St} {A F : List Addr} {i : Nat} {xs ys : List PV} {ws : List V} {D : L2.Ends} {a : Addr} (sl : SlsR K W H r σ A) (hr : r[i]? = some (.own (.lst xs))) (ha : σ[i]? = some (some (.ref a))) (rw' : RepVs K W H ys ws) (ok : Ok K T W H S (A ++ F))
    (q : KS K T WX W H F D (nxO S (setS r i (.own (.lst ys))))) : D.nx σ (upd H a (.lst ws)) := by
  obtain ⟨o, A1, A0, A2, e1, rfl, ⟨b, rfl, rfl, _⟩, k⟩ := sl.at hr
  rw [ha] at e1
  cases e1
  have hi : i < r.length := (List.getElem?_eq_some_iff.mp hr).1
  rw [setS, if_pos hi] at q
  have okf : Ok K T W H S (a :: (A1 ++ (A2 ++ F))) := ok.perm perm_front
  obtain ⟨ok', g, f, nm⟩ := okf.wr (o := .lst ws)
  have sl' := k W _ (.own (.lst ys)) (some (.ref a)) [a] g (fun b hb => by
    rw [L2.upd_ne]
    rintro rfl
    exact nm (by simp at hb ⊢; rcases hb with z | z <;> simp [z])) ⟨a, rfl, rfl, ws, L2.upd_same, rw'.grow g _ _⟩
  rw [set_same ha] at sl'
  exact q W _ σ _ g (fun b o e z => f b o e (z.imp (fun z => by simp [z]) id)) sl' (ok'.perm perm_front.symm)
end
section
variable {X : L2.Cx} {T : Tb} {G : Prg} {Φ : Phi} {g : Sg} {sc : PySem.Scope} {N : List Str} {exc : Nat → Value} {WX : WXn}
/-- xs.extend(ys), the other one perhaps locked -/
theorem mt_extR : L2.MtR X "list.extend" (fun x vs H Q => ∃ l b xs zs, x = .ref l ∧ vs = [.ref b] ∧ H l = some (.lst xs) ∧ Rd H b (.lst zs) ∧ xs.length + zs.length ≤ PySem.sizeLine ∧ Q .non (upd H l (.lst (xs ++ zs)))) := by
  intro pins s σ H x vs v us Q I rx rv h
  obtain ⟨l, b, xs, zs, rfl, rfl, hH, hB, hz, q⟩ := h
  cases rx
  obtain ⟨u, rfl, ru⟩ := rv.one
  cases ru
  obtain ⟨z, its, n, r, hl, e⟩ := I.lstM hH
  obtain ⟨z2, its2, n2, r2, e2⟩ := lst_at I hB
  have hl2 := r2.length
  have hsz : its.toArray.size + its2.toArray.size ≤ PySem.sizeLine := by rw [List.size_toArray, List.size_toArray]; omega
  have hlong : ¬ (!its.toArray.isEmpty && PySem.Builtin.List.listTooLong (its.toArray.size + its2.toArray.size)) = true := by
    rw [L2.notLongL hsz, Bool.and_false]
    exact Bool.false_ne_true
  refine PySem.call_meets PySem.F.slot_list_extend ⟨_, e, rfl⟩ PySem.F.entry_list_extend (PySem.F.args_list_extend_2 _ _)
    (PySem.AutoSeq1.list_extend_list_list_0 l its.toArray n b its2.toArray n2 hlong (by rw [List.size_toArray]; omega) (by omega)) ⟨e, e2, ?_⟩
  refine ⟨.non, _, I.lset (its' := its ++ its2) hH e (by simp) (r.append r2) ?_, rfl, q⟩
  rw [List.length_append]
  omega
theorem few_of {e : PySem.Expr} {env : PySem.Env} {cpos : PySem.Pos} (h : noStar e = true) : ((PySem.backTo cpos (PySem.starEach (e :: []) env)).all (fun x => !x.1) && (PySem.backToKw cpos (PySem.keywordEach [] env)).all (fun x => x.1.isSome)
      && decide ((e :: ([] : List PySem.Expr)).length + ([] : List PySem.Keyword).length + (if ([] : List PySem.Keyword).isEmpty then 0 else 1) < 30)) = true := by
  rw [star_of h]
  rfl
theorem ownL_some {r : Env} {i : Nat} {xs : List PV} (h : ownL r i = some xs) : r[i]? = some (.own (.lst xs)) := by
  unfold ownL at h
  split at h
  · cases h; assumption
  · cases h
theorem s_app (C : Ctx X T G Φ g sc N exc WX) {i : Nat} {x : Str} {e : CE} {pe : PySem.Expr} {p ap cp pos : PySem.Pos} (hi : N[i]? = some x) (hv : visB sc x = true) (hp : plain x = true) (hn : noStar pe = true) (hl : (ap.endLine == cp.line) = true) (h : PEe X T WX pe (simpE e) (evE G Φ e)) :
    PSe X T WX (.Expr (.Call (.Attribute (.Name x p) "append" ap) [pe] [] cp) pos) (exS G Φ (.app i e)) := by
  unfold plain at hp
  simp only [Bool.and_eq_true, Bool.not_eq_true'] at hp
  refine ps_imp (L2.ps_expr (L2.pe_bm PySem.F.plainAttrs_list PySem.F.slot_list_append PySem.F.type_list_append L2.mt_append (L2.pe_var (i := i) (by rw [C.hN]; exact hi) (vis_of C hv) hp.1 hp.2) (L2.pa_cons h L2.pa_nil (star_of hn)) rfl (few_of hn) hl (star_of hn) rfl) rfl) fun D σ H h => ?_
  obtain ⟨W, S, r, A, F, sl, ok, q⟩ := h
  simp only [exS] at q
  split at q
  · rename_i xs ho
    have hr := ownL_some ho
    obtain ⟨o, A1, A0, A2, e1, eA, ⟨a, rfl, rfl, vs, hv, rp⟩, _⟩ := sl.at hr
    have a0 : At X.K T W S r A (A ++ F) σ H := ⟨sl, fun a ha => List.mem_append_left _ ha, ok⟩
    refine ⟨_, e1, .inl ⟨rfl, vs, .of hv⟩, W, S, r, A, A ++ F, a0, ?_⟩
    cases c : evE G Φ e r S with
    | bad => rw [c] at q; exact q.elim
    | exc x S' => rw [c] at q; exact fun W' H' g' f' ok' => q W' H' σ A g' (frA f') (a0.same g' f' ok').sl ok'
    | ok v m S1 =>
      rw [c] at q
      simp only [Res.bindS_ok] at q
      intro W1 H1 y g1 f1 hy ok1
      have ha : a ∈ A := by rw [eA]; simp
      have hv1 : H1 a = some (.lst vs) := f1 a _ hv (.inl (List.mem_append_left _ ha))
      have sl1 := (a0.next g1 f1 ok1).sl
      have rp1 := rp.grow g1 _ _
      have q1 := q.step g1 (frA f1)
      have fin : ∀ W2, Grow W1 H1 W2 H1 → Ok X.K T W2 H1 S1 (A ++ F) → RepV X.K W2 H1 v y → KS X.K T WX W1 H1 F D (if xs.length < lim then nxO S1 (setS r i (.own (.lst (xs ++ [v])))) else .bad) →
          ∃ l xs0 y0, V.ref a = .ref l ∧ [y] = [y0] ∧ H1 l = some (.lst xs0) ∧ xs0.length < PySem.sizeLine ∧ (D.nx σ (upd H1 l (.lst (xs0 ++ [y0])))) := fun W2 g2 ok2 rv q2 => by
        by_cases hlim : xs.length < lim
        · rw [if_pos hlim] at q2
          refine ⟨a, vs, y, rfl, rfl, hv1, by rw [rp.len]; exact Nat.lt_of_lt_of_le hlim (lim_size (Nat.le_refl _)), ?_⟩
          refine slot_write (K := X.K) (sl1.grow g2 fun _ _ => rfl) hr e1 ?_ ok2 (q2.step g2 (Fr.refl _ _ _))
          refine RepVs.append (rp1.grow g2 _ _) ?_
          simp only [RepVs]
          exact ⟨y, [], rfl, rv, rfl⟩
        · rw [if_neg hlim] at q2
          exact q2.elim
      cases m with
      | sh => exact fin W1 (Grow.refl _ _) ok1 hy q1
      | own =>
        obtain ⟨b, rfl, ow⟩ := hy
        have ok1' : Ok X.K T W1 H1 S1 ([b] ++ (A ++ F)) := ok1
        exact fin _ Grow.addL ok1'.addL (ow.shared (by simp)) q1
      | bor => exact q1.elim
      | brf => exact q1.elim
  · exact q.elim
theorem s_ext (C : Ctx X T G Φ g sc N exc WX) {i : Nat} {x : Str} {e : CE} {pe : PySem.Expr} {p ap cp pos : PySem.Pos} (hi : N[i]? = some x) (hv : visB sc x = true) (hp : plain x = true) (hn : noStar pe = true) (hl : (ap.endLine == cp.line) = true) (h : PEe X T WX pe (simpE e) (evE G Φ e)) :
    PSe X T WX (.Expr (.Call (.Attribute (.Name x p) "extend" ap) [pe] [] cp) pos) (exS G Φ (.ext i e)) := by
  unfold plain at hp
  simp only [Bool.and_eq_true, Bool.not_eq_true'] at hp
  refine ps_imp (L2.ps_expr (L2.pe_bm PySem.F.plainAttrs_list PySem.F.slot_list_extend PySem.F.type_list_extend mt_extR (L2.pe_var (i := i) (by rw [C.hN]; exact hi) (vis_of C hv) hp.1 hp.2) (L2.pa_cons h L2.pa_nil (star_of hn)) rfl (few_of hn) hl (star_of hn) rfl) rfl) fun D σ H h => ?_
  obtain ⟨W, S, r, A, F, sl, ok, q⟩ := h
  simp only [exS] at q
  split at q
  · rename_i xs ho
    have hr := ownL_some ho
    obtain ⟨o, A1, A0, A2, e1, eA, ⟨a, rfl, rfl, vs, hv, rp⟩, _⟩ := sl.at hr
    have a0 : At X.K T W S r A (A ++ F) σ H := ⟨sl, fun a ha => List.mem_append_left _ ha, ok⟩
    refine ⟨_, e1, .inl ⟨rfl, vs, .of hv⟩, W, S, r, A, A ++ F, a0, ?_⟩
    cases c : evE G Φ e r S with
    | bad => rw [c] at q; exact q.elim
    | exc x S' => rw [c] at q; exact fun W' H' g' f' ok' => q W' H' σ A g' (frA f') (a0.same g' f' ok').sl ok'
    | ok v m S1 =>
      rw [c] at q
      simp only [Res.bindS_ok] at q
      intro W1 H1 y g1 f1 hy ok1
      have ha : a ∈ A := by rw [eA]; simp
      have hv1 : H1 a = some (.lst vs) := f1 a _ hv (.inl (List.mem_append_left _ ha))
      have sl1 := (a0.next g1 f1 ok1).sl
      have rp1 := rp.grow g1 _ _
      have q1 := q.step g1 (frA f1)
      have w := hy.vw ⟨_, ok1⟩
      generalize view S1 v = u at *
      cases u with
      | lst zs =>
        obtain ⟨b, ws, rfl, t, rz⟩ := w
        simp only [extR] at q1
        by_cases hlim : xs.length + zs.length ≤ lim
        · rw [if_pos hlim] at q1
          refine ⟨a, b, vs, ws, rfl, rfl, hv1, t, by rw [rp.len, rz.len]; exact lim_size hlim, ?_⟩
          exact slot_write (K := X.K) sl1 hr e1 (RepVs.append rp1 rz) ok1.drop q1
        · rw [if_neg hlim] at q1
          exact q1.elim
      | _ => exact q1.elim
  · exact q.elim
end
end SR

set_option linter.unusedVariables false
set_option maxRecDepth 100000
/-! Loops; targets; comprehensions given to a name. -/
namespace SR
open PySem (Addr Str Value PyData Heap)
open L2 (V Hp HO Key upd Rd SqL SqT)
section
variable {X : L2.Cx} {T : Tb} {G : Prg} {Φ : Phi} {g : Sg} {sc : PySem.Scope} {N : List Str} {exc : Nat → Value} {WX : WXn}
theorem Ok.subF {K : PySem.W.Frag} {W : Wd} {H : Hp} {S : Sto} {A A' F : List Addr} (ok : Ok K T W H S (A ++ F)) (sub : A'.Sublist A) : Ok K T W H S (A' ++ F) := by
  obtain ⟨B, h1, h2, h3⟩ := ok.st
  exact ⟨⟨B, h1, h2.sublist ((sub.append_right F).append_right B), fun a ha => h3 a (((sub.append_right F).append_right B).subset ha)⟩, ok.shd⟩
/-- a loop's end hands on what it came to -/
theorem s_for (C : SCtx X T G Φ g sc N exc WX) {t : Tg} {it : CI} {b : CSs} {ptg pit : PySem.Expr} {pb : List PySem.Stmt} {pos : PySem.Pos} (hs : noSet pit = true) (ht : ckT sc N t ptg = true) (hi : PIe X T WX ptg pit false (evI G Φ false it)) (hb : PBe X T WX pb (exB G Φ b)) :
    PSe X T WX (.For ptg pit pb [] pos) (exS G Φ (.for_ t it b)) := by
  refine ps_imp (L2.ps_for C.po C.calm hi (sndT C.toCtx t ptg ht) hb (folded_of hs)) fun D σ H h => ?_
  obtain ⟨W, S, r, A, F, sl, ok, q⟩ := h
  have a0 : At X.K T W S r A (A ++ F) σ H := ⟨sl, fun a ha => List.mem_append_left _ ha, ok⟩
  refine ⟨W, S, r, A, A ++ F, a0, ?_⟩
  simp only [exS] at q
  cases c1 : evI G Φ false it r S with
  | bad => rw [c1] at q; exact q.elim
  | exc x S' => rw [c1] at q; exact fun W' H' g' f' ok' => q W' H' σ A g' (frA f') (a0.same g' f' ok').sl ok'
  | ok items S1 =>
    rw [c1] at q
    simp only [IRes.bindS_ok] at q
    intro W1 H1 J B g1 f1 wk ok1
    have sl1 : SlsR X.K W1 H1 r σ A := (a0.same g1 f1 ok1.drop).sl
    have q1 := q.step g1 (frA f1)
    clear q
    have wk : Wk X.K T J items W1 H1 B := by
      have e : B ++ onF false (A ++ F) = B := List.append_nil B
      rw [e] at wk
      exact wk
    have ok1' : Ok X.K T W1 H1 S1 (A ++ (B ++ F)) := ok1.perm (by rw [← List.append_assoc, ← List.append_assoc]; exact List.perm_append_comm.append_right F)
    have frF : ∀ {H2}, Fr H1 H2 (B ++ F) false → Fr H1 H2 F false := fun f a o e z => f a o e (z.imp (fun z => List.mem_append_right _ z) id)
    refine ⟨fun i m σ2 H2 => m = items.length - i ∧ i ≤ items.length ∧ ∃ W2 S2 r2 A2, Grow W1 H1 W2 H2 ∧ Fr H1 H2 (B ++ F) false ∧ SlsR X.K W2 H2 r2 σ2 A2 ∧ Ok X.K T W2 H2 S2 (A2 ++ (B ++ F)) ∧
      KS X.K T WX W1 H1 F D (forI (fun S x r => bindG S t x r) (exB G Φ b) (items.drop i) r2 S2), ⟨items.length, by simp, Nat.zero_le _, W1, S1, r, A, Grow.refl _ _, Fr.refl _ _ _, sl1, ok1', q1⟩, ?_⟩
    rintro i m σ2 H2 ⟨rfl, hi, W2, S2, r2, A2, g2, f2, sl2, ok2, q2⟩
    obtain ⟨wg, ws⟩ := wk W2 H2 g2 fun a o e z => f2 a o e (z.imp (fun z => List.mem_append_left _ z) id)
    by_cases hlt : i < items.length
    · right
      obtain ⟨go, yl⟩ := wg i items[i] (List.getElem?_eq_getElem hlt)
      rw [List.drop_eq_getElem_cons hlt] at q2
      simp only [forI] at q2
      refine ⟨go, fun σ' H' => i + 1 ≤ items.length ∧ ∃ W2 S2 r2 A2, Grow W1 H1 W2 H' ∧ Fr H1 H' (B ++ F) false ∧ SlsR X.K W2 H' r2 σ' A2 ∧ Ok X.K T W2 H' S2 (A2 ++ (B ++ F)) ∧
        KS X.K T WX W1 H1 F D (forI (fun S x r => bindG S t x r) (exB G Φ b) (items.drop (i + 1)) r2 S2), fun σ' H' ⟨h1, h2⟩ => ⟨items.length - (i + 1), by omega, rfl, h1, h2⟩, fun y H3 hy => ?_⟩
      obtain ⟨W3, g3, f3, okm, ry⟩ := yl y H3 hy
      have ok3 := okm _ _ ok2
      have sl3 : SlsR X.K W3 H3 r2 σ2 A2 := sl2.grow g3 fun a ha => by
        obtain ⟨⟨o, e⟩, _⟩ := ok2.ownd (List.mem_append_left _ ha)
        rw [e, f3 [] a o e (.inr rfl)]
      cases cb : bindG S2 t items[i] r2 with
      | none => rw [cb] at q2; exact q2.elim
      | some r4 =>
        refine ⟨W3, S2, r2, A2, _, items[i], sl3, ok3, ry, ?_⟩
        rw [cb]
        intro σ4 A4 sl4 sub4 _ _
        rw [cb] at q2
        refine ⟨W3, S2, r4, A4, B ++ F, sl4, ok3.subF sub4, ?_⟩
        have g13 := g2.trans g3
        have f13 : Fr H1 H3 (B ++ F) false := fun a o e z => f3 [] a o (f2 a o e z) (.inr rfl)
        dsimp only at q2
        cases c2 : exB G Φ b r4 S2 with
        | bad => rw [c2] at q2; exact q2.elim
        | nx r5 S5 =>
          rw [c2] at q2
          simp only [SRes.loop_nx] at q2
          exact fun W5 H5 σ5 A5 g5 f5 sl5 ok5 => ⟨hlt, W5, S5, r5, A5, g13.trans g5, fun a o e z => f5 a o (f13 a o e z) z, sl5, ok5, q2⟩
        | cnt r5 S5 =>
          rw [c2] at q2
          simp only [SRes.loop_cnt] at q2
          exact fun W5 H5 σ5 A5 g5 f5 sl5 ok5 => ⟨hlt, W5, S5, r5, A5, g13.trans g5, fun a o e z => f5 a o (f13 a o e z) z, sl5, ok5, q2⟩
        | brk r5 S5 =>
          rw [c2] at q2
          simp only [SRes.loop_brk] at q2
          exact fun W5 H5 σ5 A5 g5 f5 sl5 ok5 => q2 W5 H5 σ5 A5 (g13.trans g5) (frF fun a o e z => f5 a o (f13 a o e z) z) sl5 ok5.mid
        | ret v m S5 =>
          rw [c2] at q2
          simp only [SRes.loop_ret] at q2
          exact ⟨q2.1, fun W5 H5 x5 g5 f5 hx ok5 => q2.2 W5 H5 x5 (g13.trans g5) (frF fun a o e z => f5 a o (f13 a o e z) z) (hx.fin q2.1) ok5.mid⟩
        | exc c r5 S5 =>
          rw [c2] at q2
          simp only [SRes.loop_exc] at q2
          exact fun W5 H5 σ5 A5 g5 f5 sl5 ok5 => q2 W5 H5 σ5 A5 (g13.trans g5) (frF fun a o e z => f5 a o (f13 a o e z) z) sl5 ok5.mid
    · left
      have e : i = items.length := by omega
      subst e
      refine ⟨ws _ (Nat.le_refl _), ?_⟩
      rw [List.drop_length] at q2
      exact q2 W2 H2 σ2 A2 g2 (frF f2) sl2 ok2.mid
theorem s_whl (C : SCtx X T G Φ g sc N exc WX) {c : CT} {b : CSs} {pc : PySem.Expr} {pb : List PySem.Stmt} {pos : PySem.Pos} (hc : PTe X T WX pc false (evT G Φ c)) (hb : PBe X T WX pb (exB G Φ b)) :
    PSe X T WX (.While pc pb [] pos) (exS G Φ (.whl c b)) := by
  refine ps_imp (L2.ps_while C.po hc hb) fun D σ H h => ?_
  obtain ⟨W, S, r, A, F, sl, ok, q⟩ := h
  simp only [exS] at q
  refine ⟨fun n σ2 H2 => ∃ W2 S2 r2 A2, Grow W H W2 H2 ∧ Fr H H2 F false ∧ SlsR X.K W2 H2 r2 σ2 A2 ∧ Ok X.K T W2 H2 S2 (A2 ++ F) ∧ KS X.K T WX W H F D (whlI (evT G Φ c) (exB G Φ b) n r2 S2), ⟨rounds, W, S, r, A, Grow.refl _ _, Fr.refl _ _ _, sl, ok, q⟩, ?_⟩
  rintro n σ2 H2 ⟨W2, S2, r2, A2, g2, f2, sl2, ok2, q2⟩
  have a0 : At X.K T W2 S2 r2 A2 (A2 ++ F) σ2 H2 := ⟨sl2, fun a ha => List.mem_append_left _ ha, ok2⟩
  refine ⟨W2, S2, r2, A2, A2 ++ F, a0, ?_⟩
  cases n with
  | zero => exact q2.elim
  | succ n =>
    simp only [whlI] at q2
    cases c1 : evT G Φ c r2 S2 with
    | bad => rw [c1] at q2; exact q2.elim
    | exc x S' => rw [c1] at q2; exact fun W' H' g' f' ok' => q2 W' H' σ2 A2 (g2.trans g') (fun a o e z => frA f' a o (f2 a o e z) z) (a0.same g' f' ok').sl ok'
    | ok k S3 =>
      rw [c1] at q2
      simp only [TRes.bindS_ok] at q2
      intro W3 H3 g3 f3 ok3
      have sl3 := (a0.same g3 f3 ok3).sl
      have g13 := g2.trans g3
      have f13 : Fr H H3 F false := fun a o e z => frA f3 a o (f2 a o e z) z
      cases k with
      | false =>
        rw [if_neg Bool.false_ne_true] at q2 ⊢
        exact q2 W3 H3 σ2 A2 g13 f13 sl3 ok3
      | true =>
        rw [if_pos rfl] at q2 ⊢
        refine ⟨fun σ' H' => ∃ W2 S2 r2 A2, Grow W H W2 H' ∧ Fr H H' F false ∧ SlsR X.K W2 H' r2 σ' A2 ∧ Ok X.K T W2 H' S2 (A2 ++ F) ∧ KS X.K T WX W H F D (whlI (evT G Φ c) (exB G Φ b) n r2 S2), fun σ' H' h => ⟨n, Nat.lt_succ_self n, h⟩, W3, S3, r2, A2, F, sl3, ok3, ?_⟩
        cases c2 : exB G Φ b r2 S3 with
        | bad => rw [c2] at q2; exact q2.elim
        | nx r5 S5 =>
          rw [c2] at q2
          simp only [SRes.loop_nx] at q2
          exact fun W5 H5 σ5 A5 g5 f5 sl5 ok5 => ⟨W5, S5, r5, A5, g13.trans g5, fun a o e z => f5 a o (f13 a o e z) z, sl5, ok5, q2⟩
        | cnt r5 S5 =>
          rw [c2] at q2
          simp only [SRes.loop_cnt] at q2
          exact fun W5 H5 σ5 A5 g5 f5 sl5 ok5 => ⟨W5, S5, r5, A5, g13.trans g5, fun a o e z => f5 a o (f13 a o e z) z, sl5, ok5, q2⟩
        | brk r5 S5 =>
          rw [c2] at q2
          simp only [SRes.loop_brk] at q2
          exact fun W5 H5 σ5 A5 g5 f5 sl5 ok5 => q2 W5 H5 σ5 A5 (g13.trans g5) (fun a o e z => f5 a o (f13 a o e z) z) sl5 ok5
        | ret v m S5 =>
          rw [c2] at q2
          simp only [SRes.loop_ret] at q2
          exact ⟨q2.1, fun W5 H5 x5 g5 f5 hx ok5 => q2.2 W5 H5 x5 (g13.trans g5) (fun a o e z => f5 a o (f13 a o e z) z) hx ok5⟩
        | exc c r5 S5 =>
          rw [c2] at q2
          simp only [SRes.loop_exc] at q2
          exact fun W5 H5 σ5 A5 g5 f5 sl5 ok5 => q2 W5 H5 σ5 A5 (g13.trans g5) (fun a o e z => f5 a o (f13 a o e z) z) sl5 ok5
theorem s_asgT (C : Ctx X T G Φ g sc N exc WX) {t : Tg} {e : CE} {ts : List PySem.Expr} {k : Nat} {tp : PySem.Pos} {pe : PySem.Expr} {pos : PySem.Pos} (ht : ckT sc N t (.Tuple ts k tp) = true) (hc : plainV pe = true) (h : PEe X T WX pe (simpE e) (evE G Φ e)) :
    PSe X T WX (.Assign [.Tuple ts k tp] pe pos) (exS G Φ (.asg t e)) := by
  have nc : noComp pe = true := by cases pe <;> first | rfl | cases hc
  refine ps_imp (L2.ps_asg h (sndT C t _ ht) (show PySem.swapsWith pe (some (.Tuple ts k tp)) pos.line X.env = pure false from swaps_of nc) (by cases pe <;> first | rfl | cases hc) rfl) fun D σ H h => ?_
  refine TIs.expr (k := fun v m r S1 => nxO S1 (asgG S1 t v m r)) (by simpa only [exS] using h) fun W S r A F v m x H sl hx ok q => ?_
  have nn : ∀ i, t ≠ .nm i := by
    rintro i rfl
    simp [ckT] at ht
  have hm : m = .sh ∧ asgG S t v m r = bindG S t v r := by
    cases t with
    | nm i => exact absurd rfl (nn i)
    | tp2 a b => cases m <;> first | exact ⟨rfl, rfl⟩ | exact q.elim
    | tp3 a b c => cases m <;> first | exact ⟨rfl, rfl⟩ | exact q.elim
  obtain ⟨rfl, e⟩ := hm
  rw [e] at q
  have ok' : Ok X.K T W H S (A ++ F) := ok
  refine ⟨W, S, r, A, A ++ F, v, sl, ok', hx, ?_⟩
  cases cb : bindG S t v r with
  | none => rw [cb] at q; exact q.elim
  | some r' =>
    rw [cb] at q
    exact fun σ' A' sl' sub _ _ => q W H σ' A' (Grow.refl _ _) (Fr.refl _ _ _) sl' (ok'.subF sub)
/-- whether a comprehension's name is stored within its own frame -/
def swB (sc scope : PySem.Scope) (y : Str) (py pos : PySem.Pos) : Bool :=
  decide (sc.names.lookup y = some .local) && (py.line == pos.line) && !(scope.names.any fun (n, k) => n == y && (k == .local || k == .cell))
theorem sw_t (C : SCtx X T G Φ g sc N exc WX) {elt : PySem.Expr} {gs : List PySem.Comprehension} {scope : PySem.Scope} {pos py : PySem.Pos} {y : Str} {l : Nat} (h : swB sc scope y py pos = true) :
    X.env.scope.names.lookup y = some .local ∧ PySem.swapsWith (.ListComp elt gs scope pos) (some (.Name y py)) l X.env = pure true := by
  unfold swB at h
  simp only [Bool.and_eq_true, decide_eq_true_eq, Bool.not_eq_true'] at h
  have e : X.env.scope.names.lookup y = some .local := by rw [C.hsc]; exact h.1.1
  exact ⟨e, L2.sw_true (by rw [C.hsc]; exact C.kind) e h.1.2 h.2⟩
theorem sw_f (C : SCtx X T G Φ g sc N exc WX) {elt : PySem.Expr} {gs : List PySem.Comprehension} {scope : PySem.Scope} {pos py : PySem.Pos} {y : Str} {l : Nat} (h : swB sc scope y py pos = false) :
    PySem.swapsWith (.ListComp elt gs scope pos) (some (.Name y py)) l X.env = pure false := by
  have hb : X.env.blockKind = .function := by unfold PySem.Env.blockKind; rw [C.hsc, C.kind]; rfl
  have hk : (X.env.kindOf y == some .local) = decide (sc.names.lookup y = some .local) := by
    show (X.env.scope.names.lookup y == some .local) = _
    rw [C.hsc]
    by_cases e : sc.names.lookup y = some .local
    · rw [e]; simp
    · rw [decide_eq_false e]; exact beq_eq_false_iff_ne.mpr e
  unfold PySem.swapsWith
  simp only [hb, hk, PySem.Expr.pos]
  unfold swB at h
  show pure (PySem.ScopeKind.function == .function && decide (sc.names.lookup y = some .local) && (py.line == pos.line) && !(scope.names.any fun (n, k) => n == y && (k == .local || k == .cell))) = pure false
  rw [show (PySem.ScopeKind.function == .function) = true from rfl, Bool.true_and, h]
theorem s_asgLc (C : SCtx X T G Φ g sc N exc WX) {i : Nat} {y : Str} {elt : CE} {t : Tg} {it : CI} {pelt ptg piter : PySem.Expr} {scope : PySem.Scope} {py pos spos : PySem.Pos} (hy : N[i]? = some y) (hl : locB sc y = true) (hi : PIe X T WX ptg piter true (evI G Φ true it)) (hb : L2.blkC N sc scope (ownOf N t) = true) (ho : (ownOf N t).map (·.2) = tgS t) (ht : ckT scope N t ptg = true)
    (he : ∀ (s : PySem.Shared) (H : Hp) (D : Addr) (cl : List (Str × Addr)) (fp : List Addr), PEe (X.blk s H scope (PySem.compEnvC scope cl D X.env) fp) T WXF pelt (simpE elt) (evE G Φ elt)) (hs : noSet piter = true) :
    PSe X T WX (.Assign [.Name y py] (.ListComp pelt [⟨ptg, piter, [], 0⟩] scope pos) spos) (exS G Φ (.asg (.nm i) (.lc elt t it))) := by
  cases hsw : swB sc scope y py pos with
  | true =>
    obtain ⟨e1, e2⟩ := sw_t C (elt := pelt) (gs := [⟨ptg, piter, [], 0⟩]) (l := spos.line) hsw
    refine ps_imp (L2.ps_setLc (i := i) (g := TGi X.K T t) (tt := TIt X.K T WXF false fun _ S => .ok true S) (te := TIe X.K T WXF (simpE elt) (evE G Φ elt)) C.calm (by rw [C.hN]; exact C.nd) (by rw [C.hN]; exact hy) e1 e2 hi (blk_ok C.toCtx hb) (fun s H D cl fp => sndT (C.blk s H D cl fp) t ptg ht) (fun s H D cl fp => pts_yes (K := X.K)) he (folded_of hs)) fun D σ H h => ?_
    rw [ho]
    refine lc_read (tc := fun _ S => .ok true S) (el := evE G Φ elt) (ev := evI G Φ true it) (s := simpE elt) σ H _ ?_
    refine TIs.expr (k := fun v m r S1 => nxO S1 (asgG S1 (.nm i) v m r)) ?_ fun W S r A F v m x H sl hx ok q => set_slot sl hx ok q
    have e : exS G Φ (.asg (.nm i) (.lc elt t it)) = fun r S => ((evI G Φ true it r S).bind fun xs S1 => if lim < xs.length then .bad else lcI (lcF (fun _ S => .ok true S) (evE G Φ elt) t r) xs [] S1).bindS r fun v m S1 => nxO S1 (asgG S1 (.nm i) v m r) := by
      funext r S
      simp only [exS, evE]
      rfl
    rw [e] at h
    exact h
  | false =>
    refine ps_imp (L2.ps_set (i := i) (by rw [C.hN]; exact C.nd) (by rw [C.hN]; exact hy) (loc_of C.toCtx hl) (e_lc C.toCtx hi hb ho ht he hs) (sw_f C hsw) (C.fnl _ hl)) fun D σ H h => ?_
    refine TIs.expr (k := fun v m r S1 => nxO S1 (asgG S1 (.nm i) v m r)) (by simpa only [exS] using h) fun W S r A F v m x H sl hx ok q => set_slot sl hx ok q
theorem s_asgLcf (C : SCtx X T G Φ g sc N exc WX) {i : Nat} {y : Str} {elt : CE} {t : Tg} {it : CI} {c : CT} {pelt ptg piter pc : PySem.Expr} {scope : PySem.Scope} {py pos spos : PySem.Pos} (hy : N[i]? = some y) (hl : locB sc y = true) (hi : PIe X T WX ptg piter true (evI G Φ true it)) (hb : L2.blkC N sc scope (ownOf N t) = true) (ho : (ownOf N t).map (·.2) = tgS t) (ht : ckT scope N t ptg = true)
    (he : ∀ (s : PySem.Shared) (H : Hp) (D : Addr) (cl : List (Str × Addr)) (fp : List Addr), PEe (X.blk s H scope (PySem.compEnvC scope cl D X.env) fp) T WXF pelt (simpE elt) (evE G Φ elt))
    (hc : ∀ (s : PySem.Shared) (H : Hp) (D : Addr) (cl : List (Str × Addr)) (fp : List Addr), PTe (X.blk s H scope (PySem.compEnvC scope cl D X.env) fp) T WXF pc false (evT G Φ c)) (hs : noSet piter = true) :
    PSe X T WX (.Assign [.Name y py] (.ListComp pelt [⟨ptg, piter, [pc], 0⟩] scope pos) spos) (exS G Φ (.asg (.nm i) (.lcf elt t it c))) := by
  cases hsw : swB sc scope y py pos with
  | true =>
    obtain ⟨e1, e2⟩ := sw_t C (elt := pelt) (gs := [⟨ptg, piter, [pc], 0⟩]) (l := spos.line) hsw
    refine ps_imp (L2.ps_setLc (i := i) (g := TGi X.K T t) (tt := TIt X.K T WXF false (evT G Φ c)) (te := TIe X.K T WXF (simpE elt) (evE G Φ elt)) C.calm (by rw [C.hN]; exact C.nd) (by rw [C.hN]; exact hy) e1 e2 hi (blk_ok C.toCtx hb) (fun s H D cl fp => sndT (C.blk s H D cl fp) t ptg ht) (fun s H D cl fp => L2.pts_one (hc s H D cl fp)) he (folded_of hs)) fun D σ H h => ?_
    rw [ho]
    refine lc_read (tc := evT G Φ c) (el := evE G Φ elt) (ev := evI G Φ true it) (s := simpE elt) σ H _ ?_
    refine TIs.expr (k := fun v m r S1 => nxO S1 (asgG S1 (.nm i) v m r)) ?_ fun W S r A F v m x H sl hx ok q => set_slot sl hx ok q
    have e : exS G Φ (.asg (.nm i) (.lcf elt t it c)) = fun r S => ((evI G Φ true it r S).bind fun xs S1 => if lim < xs.length then .bad else lcI (lcF (evT G Φ c) (evE G Φ elt) t r) xs [] S1).bindS r fun v m S1 => nxO S1 (asgG S1 (.nm i) v m r) := by
      funext r S
      simp only [exS, evE]
      rfl
    rw [e] at h
    exact h
  | false =>
    refine ps_imp (L2.ps_set (i := i) (by rw [C.hN]; exact C.nd) (by rw [C.hN]; exact hy) (loc_of C.toCtx hl) (e_lcf C.toCtx hi hb ho ht he hc hs) (sw_f C hsw) (C.fnl _ hl)) fun D σ H h => ?_
    refine TIs.expr (k := fun v m r S1 => nxO S1 (asgG S1 (.nm i) v m r)) (by simpa only [exS] using h) fun W S r A F v m x H sl hx ok q => set_slot sl hx ok q
/-- a slot's list becomes one that may stand anywhere -/
theorem g_shr {i : Nat} (K : PySem.W.Frag) (D : L2.Ends) (σ : L2.St) (H : Hp) (h : TIs K T WX (exS G Φ (.shr i)) D σ H) : D.nx σ H := by
  obtain ⟨W, S, r, A, F, sl, ok, q⟩ := h
  simp only [exS] at q
  split at q
  · rename_i x hr
    have hi : i < r.length := (List.getElem?_eq_some_iff.mp hr).1
    rw [setS, if_pos hi] at q
    obtain ⟨o, A1, A0, A2, e1, rfl, hx, k⟩ := sl.at hr
    cases x with
    | un =>
      have sl' := k W H .un o A0 (Grow.refl _ _) (fun _ _ => rfl) hx
      rw [set_same e1] at sl'
      exact q W H σ _ (Grow.refl _ _) (Fr.refl _ _ _) sl' ok
    | sh v =>
      have sl' := k W H (.sh v) o A0 (Grow.refl _ _) (fun _ _ => rfl) hx
      rw [set_same e1] at sl'
      exact q W H σ _ (Grow.refl _ _) (Fr.refl _ _ _) sl' ok
    | own v =>
      obtain ⟨a, rfl, rfl, ow⟩ := hx
      have okf : Ok K T W H S ([a] ++ (A1 ++ (A2 ++ F))) := ok.perm perm_front
      have sl' := k (W.addL [a]) H (.sh v) (some (.ref a)) [] Grow.addL (fun _ _ => rfl) ⟨rfl, _, rfl, ow.shared (by simp)⟩
      rw [set_same e1] at sl'
      refine q (W.addL [a]) H σ _ Grow.addL (Fr.refl _ _ _) sl' ?_
      have := okf.addL
      simpa using this
  · exact q.elim
end
end SR

set_option linter.unusedVariables false
set_option maxRecDepth 100000
set_option maxHeartbeats 0
/-! Stores into dicts, a slot forgotten. -/
namespace SR
open PySem (Addr Str Value PyData Heap)
open L2 (V Hp HO Key upd Rd SqL SqT)
/-- d[y] = v, an empty dict being one for any keys -/
def DPutE (H : Hp) (a : Addr) (y v : V) (H' : Hp) : Prop := L2.DPut H a y v H' ∨
  (H a = some (.dK []) ∧ ∃ (b : Addr) (k : List Key), y = .ref b ∧ H b = some (.tup (k.map L2.kV)) ∧ H' = upd H a (.dT [(k, v)])) ∨ (H a = some (.dT []) ∧ ∃ k : Key, y = L2.kV k ∧ H' = upd H a (.dK [(k, v)]))
section
variable {X : L2.Cx} {pins : List (Addr × PySem.Obj)} {σ : L2.St} {H : Hp} {s : PySem.Shared} {a : Addr} {u r : Value} {y v : V} {A : PySem.Around} {E : Value → PySem.Shared → Prop}
open PySem in
theorem d_setItemE {H' : Hp} {Q : Unit → PySem.Shared → Prop} (hu : A.units + 1 < PySem.cLine) (I : L2.Inv X pins σ H s) (g : DPutE H a y v H') (ry : L2.RelV y u) (rv : L2.RelV v r) (h : ∀ s', L2.Inv X pins σ H' s' → Q () s') :
    PySem.wpAny (PySem.model X.prog X.w) A (PySem.setItem (.ref a) u r) Q E s := by
  rcases g with g | ⟨e, b, k, rfl, eb, rfl⟩ | ⟨e, k, rfl, rfl⟩
  · exact L2.d_setItem hu I g ry rv h
  · cases (show u = Value.ref b from ry)
    obtain ⟨lo, dd⟩ := dT0 I (.inl e)
    refine wpAny_setItem_heap (hsz := Nat.zero_le _) (tupleKind_room_in1 hu) (L2.key_of I.hok eb) dd fun h' dd' hs => h _ ?_
    obtain ⟨q, es, ep, hq, h2, h3, h4, _, h5⟩ := dd'
    refine L2.d_write I (by rw [e]; exact True.intro) hs ⟨q, hq⟩ ⟨by show 1 ≤ _; decide, lo, _, .cons ⟨rfl, ?_, rv⟩ .nil, q, es, ep, hq, h2, h3, h4, h5⟩
    rw [L2.upd_ne (L2.ne_of eb e (fun z => nomatch z))]
    exact eb
  · obtain ⟨lo, dd⟩ := dK0 I (.inl e)
    refine wpAny_setItem_pairs (hsz := Nat.zero_le _) (L2.kV_is ry) dd fun h' dd' hs => h _ ?_
    have he : ∃ q, h'.get? a = some q := let ⟨q, _, _, hq, _⟩ := dd'; ⟨q, hq⟩
    exact L2.d_write I (by rw [e]; exact True.intro) hs he (L2.dk_new (by show 1 ≤ _; decide) lo (.cons ⟨rfl, rv⟩ .nil) dd')
end
def sDPutE (td ty tv : L2.TE) : L2.TS := fun D σ H => tv σ H fun v H1 => td σ H1 fun x H2 => ty σ H2 fun y H3 => ∃ a H4, x = .ref a ∧ DPutE H3 a y v H4 ∧ D.nx σ H4
theorem ps_dputE {X : L2.Cx} {o i value : PySem.Expr} {td ty tv : L2.TE} {pos pos' : PySem.Pos} (hu : X.A.units + 1 < PySem.cLine) (ho : L2.PE X o td) (hi : L2.PE X i ty) (hv : L2.PE X value tv) (hs : PySem.swapsWith value (some (.Subscript o i pos')) pos.line X.env = pure false) :
    L2.PS X (.Assign [.Subscript o i pos'] value pos) (sDPutE td ty tv) := by
  refine ⟨fun pins s σ H D I h => ?_⟩
  refine PySem.wpAny_Assign_Subscript (L2.thn (hv.run pins s σ H _ I h) fun r s1 ⟨v, H1, I1, rv, q1⟩ => L2.thn (ho.run pins s1 σ H1 _ I1 q1) fun u s2 ⟨x, H2, I2, rx, q2⟩ => L2.thn (hi.run pins s2 σ H2 _ I2 q2) fun iv s3 ⟨y, H3, I3, ry, a, H4, ex, g, q3⟩ => ?_) hs
  subst ex
  obtain rfl : u = Value.ref a := rx
  exact d_setItemE hu I3 g ry rv fun s4 I4 => ⟨σ, H4, I4, q3⟩
section
variable {K : PySem.W.Frag} {T : Tb} {W : Wd} {H : Hp}
theorem RepT.anyT {p : List Nat} : ∀ {kvs : List (Ky × PV)} {ks : List (List Key × V)}, RepT K W H kvs ks → hasK (.tp p) kvs = ks.any fun kv => decide (kv.1 = pathK p)
  | [], ks, h => by
    simp only [RepT] at h
    subst h
    rfl
  | (k, x) :: r, ks, h => by
    simp only [RepT] at h
    obtain ⟨k', v, t, rfl, rfl, h1, h2⟩ := h
    have := RepT.anyT (p := p) h2
    unfold hasK at this ⊢
    rw [List.any_cons, List.any_cons, this]
    congr 1
    refine decide_eq_decide.mpr ?_
    rw [pathK_inj]
    constructor
    · intro h; cases h; rfl
    · rintro rfl; rfl
theorem RepT.putOld {p : List Nat} {x : PV} {v : V} (hx : RepV K W H x v) : ∀ {kvs : List (Ky × PV)} {ks : List (List Key × V)}, RepT K W H kvs ks →
    RepT K W H (kvs.map fun q => if q.1 = .tp p then (q.1, x) else q) (ks.map fun kv => if kv.1 = pathK p then (kv.1, v) else kv)
  | [], ks, h => by
    simp only [RepT] at h
    subst h
    simp only [List.map_nil, RepT]
  | (k, y) :: r, ks, h => by
    simp only [RepT] at h
    obtain ⟨k', w, t, rfl, rfl, h1, h2⟩ := h
    have ih := RepT.putOld (p := p) hx h2
    rw [List.map_cons, List.map_cons]
    by_cases z : k' = p
    · subst z
      rw [if_pos rfl, if_pos rfl]
      simp only [RepT]
      exact ⟨_, _, _, rfl, rfl, hx, ih⟩
    · rw [if_neg (fun e => z (by cases e; rfl)), if_neg (fun e => z (pathK_inj.mp e))]
      simp only [RepT]
      exact ⟨_, _, _, rfl, rfl, h1, ih⟩
theorem RepT.putNew {p : List Nat} {x : PV} {v : V} (hx : RepV K W H x v) : ∀ {kvs : List (Ky × PV)} {ks : List (List Key × V)}, RepT K W H kvs ks → RepT K W H (kvs ++ [(.tp p, x)]) (ks ++ [(pathK p, v)])
  | [], ks, h => by
    simp only [RepT] at h
    subst h
    simp only [List.nil_append, RepT]
    exact ⟨_, _, _, rfl, rfl, hx, rfl⟩
  | (k, y) :: r, ks, h => by
    simp only [RepT] at h
    obtain ⟨k', w, t, rfl, rfl, h1, h2⟩ := h
    simp only [List.cons_append, RepT]
    exact ⟨_, _, _, rfl, rfl, h1, RepT.putNew hx h2⟩
theorem RepT.putR {kvs : List (Ky × PV)} {ks : List (List Key × V)} {p : List Nat} {x : PV} {v : V} (h : RepT K W H kvs ks) (hx : RepV K W H x v) : RepT K W H (putK (.tp p) x kvs) (L2.putK ks (pathK p) v) := by
  unfold putK L2.putK
  rw [RepT.anyT h]
  split
  · exact RepT.putOld hx h
  · exact RepT.putNew hx h
theorem putK_len (k : Ky) (x : PV) (kvs : List (Ky × PV)) : (putK k x kvs).length ≤ kvs.length + 1 := by
  unfold putK
  split <;> simp
/-- what a store makes of a dict that stands at one place alone -/
theorem dput_own {kvs : List (Ky × PV)} {a : Addr} {k : Ky} {y : V} {x : PV} {v : V} (ow : OwnR K W H (.dct kvs) a) (hk : KeyV K W H k y) (hx : RepV K W H x v) (hl : kvs.length < lim) (ho : kindOk k kvs = true) :
    ∃ u, nT u ∧ DPutE H a y v (upd H a u) ∧ ∀ W', Grow W H W' (upd H a u) → OwnR K W' (upd H a u) (.dct (putK k x kvs)) a := by
  have lz : ∀ {n : Nat}, n = kvs.length → n < PySem.sizeLine := fun {n} e => by
    rw [e]
    exact Nat.lt_of_lt_of_le hl (lim_size (Nat.le_refl _))
  rcases ow with ⟨ks, e, rp⟩ | ⟨ks, e, rp⟩
  · cases hk with
    | @k _ k' hr =>
      exact ⟨.dK (L2.putK ks k' v), trivial, .inl (.k e (lz rp.len)), fun W' g => .inl ⟨_, L2.upd_same, RepK.grow g _ _ (rp.putR hr hx)⟩⟩
    | t s hb =>
      cases kvs with
      | nil =>
        simp only [RepK] at rp
        subst rp
        refine ⟨.dT [(pathK _, v)], trivial, .inr (.inl ⟨e, _, _, rfl, hb, rfl⟩), fun W' g => .inr ⟨_, L2.upd_same, ?_⟩⟩
        have z : ∀ k, putK k x [] = [(k, x)] := fun _ => rfl
        rw [z]
        simp only [RepT]
        exact ⟨_, _, _, rfl, rfl, RepV.grow g _ _ hx, rfl⟩
      | cons p t =>
        obtain ⟨k1, v1⟩ := p
        simp only [RepK] at rp
        obtain ⟨k2, _, _, _, hk1, _⟩ := rp
        cases hk1 <;> simp [kindOk] at ho
  · cases hk with
    | k hr =>
      cases kvs with
      | nil =>
        simp only [RepT] at rp
        subst rp
        refine ⟨.dK [(_, v)], trivial, .inr (.inr ⟨e, _, rfl, rfl⟩), fun W' g => .inl ⟨_, L2.upd_same, ?_⟩⟩
        have : ∀ k, putK k x [] = [(k, x)] := fun _ => rfl
        rw [this]
        simp only [RepK]
        exact ⟨_, _, _, rfl, hr, RepV.grow g _ _ hx, rfl⟩
      | cons p t =>
        obtain ⟨k1, v1⟩ := p
        simp only [RepT] at rp
        obtain ⟨k2, _, _, _, rfl, _⟩ := rp
        cases hr <;> simp [kindOk] at ho
    | @t p _ s hb =>
      exact ⟨.dT (L2.putK ks (pathK p) v), trivial, .inl (.t e hb (lz rp.len)), fun W' g => .inr ⟨_, L2.upd_same, RepT.grow g _ _ (rp.putR hx)⟩⟩
end
section
variable {X : L2.Cx} {T : Tb} {G : Prg} {Φ : Phi} {g : Sg} {sc : PySem.Scope} {N : List Str} {exc : Nat → Value} {WX : WXn}
theorem ownD_some {r : Env} {i : Nat} {kvs : List (Ky × PV)} (h : ownD r i = some kvs) : r[i]? = some (.own (.dct kvs)) := by
  unfold ownD at h
  split at h
  · cases h; assumption
  · cases h
theorem s_dset (C : Ctx X T G Φ g sc N exc WX) {i : Nat} {x : Str} {e k : CE} {pe pk : PySem.Expr} {p p2 pos : PySem.Pos} (hi : N[i]? = some x) (hv : visB sc x = true) (hp : plain x = true) (hc : noComp pe = true) (h : PEe X T WX pe (simpE e) (evE G Φ e)) (hk : PEe X T WX pk (simpE k) (evE G Φ k)) :
    PSe X T WX (.Assign [.Subscript (.Name x p) pk p2] pe pos) (exS G Φ (.dset i k e)) := by
  unfold plain at hp
  simp only [Bool.and_eq_true, Bool.not_eq_true'] at hp
  refine ps_imp (ps_dputE (by have := C.units; omega) (L2.pe_var (i := i) (by rw [C.hN]; exact hi) (vis_of C hv) hp.1 hp.2) hk h (swaps_of hc)) fun D σ H h => ?_
  obtain ⟨W, S, r, A, F, sl, ok, q⟩ := h
  simp only [exS] at q
  split at q
  · rename_i kvs ho
    have hr := ownD_some ho
    obtain ⟨o, A1, A0, A2, e1, eA, ⟨a, rfl, rfl, ow⟩, kk⟩ := sl.at hr
    have a0 : At X.K T W S r A (A ++ F) σ H := ⟨sl, fun a ha => List.mem_append_left _ ha, ok⟩
    have ha : a ∈ A := by rw [eA]; simp
    refine ⟨W, S, r, A, A ++ F, a0, ?_⟩
    cases c : evE G Φ e r S with
    | bad => rw [c] at q; exact q.elim
    | exc x S' => rw [c] at q; exact fun W' H' g' f' ok' => q W' H' σ A g' (frA f') (a0.same g' f' ok').sl ok'
    | ok v m S1 =>
      rw [c] at q
      simp only [Res.bindS_ok] at q
      intro W1 H1 y g1 f1 hy ok1
      have a1 := a0.next g1 f1 ok1
      refine ⟨_, e1, W1, S1, r, A, _, a1, ?_⟩
      have q1 := q.step g1 (frA f1)
      have f1' := frA f1
      cases c2 : evE G Φ k r S1 with
      | bad => rw [c2] at q1; exact q1.elim
      | exc x S' =>
        rw [c2] at q1
        exact fun W' H' g' f' ok' => q1 W' H' σ A g' (fun a o e z => f' a o e (z.imp (fun z => by simp [z]) no_t)) (a1.same g' f' ok').sl ok'.drop
      | ok kv n S2 =>
        rw [c2] at q1
        simp only [Res.bindS_ok] at q1
        intro W2 H2 z g2 f2 hz ok2
        have a2 := a1.next g2 f2 ok2
        unfold dsetR at q1
        split at q1
        · rename_i ky hmn hky
          simp only [Bool.and_eq_true] at hmn
          obtain rfl : n = .sh := by cases n <;> simp_all [Md.isSh]
          split at q1
          · rename_i hl
            have hz : RepV X.K W2 H2 kv z := hz
            have ok2 : Ok X.K T W2 H2 S2 (ownA m y ++ (A ++ F)) := ok2
            have q2 : KS X.K T WX W2 H2 F D (nxO S2 (setS r i (.own (.dct (putK ky v kvs))))) := q1.step g2 (fun a o e z => f2 a o e (z.imp (fun z => by simp [z]) no_t))
            -- the value is shared
            obtain ⟨W3, g3, ok3, rv⟩ : ∃ W3, Grow W2 H2 W3 H2 ∧ Ok X.K T W3 H2 S2 (A ++ F) ∧ RepV X.K W3 H2 v y := by
              cases m with
              | sh => exact ⟨W2, Grow.refl _ _, ok2, RepV.grow g2 _ _ hy⟩
              | own =>
                obtain ⟨b, rfl, ob⟩ := hy
                obtain ⟨o, eo⟩ := ob.some
                have ob2 : OwnR X.K W2 H2 v b := ob.grow g2 (by rw [eo, f2 b o eo (.inl (by simp [ownA]))])
                have ok2' : Ok X.K T W2 H2 S2 ([b] ++ (A ++ F)) := ok2
                exact ⟨_, Grow.addL, ok2'.addL, ob2.shared (by simp)⟩
              | bor => cases hmn.1
              | brf => cases hmn.1
            have sl3 : SlsR X.K W3 H2 r σ A := a2.sl.grow g3 fun _ _ => rfl
            obtain ⟨o', B1, B0, B2, e1', eA', ⟨a', rfl, ea', ow3⟩, kk3⟩ := sl3.at hr
            rw [e1] at e1'
            cases e1'
            cases ea'
            have okf : Ok X.K T W3 H2 S2 (a :: (B1 ++ (B2 ++ F))) := by
              rw [eA'] at ok3
              exact ok3.perm perm_front
            obtain ⟨u, nt, dp, mk⟩ := dput_own ow3 (key_of hky (RepV.grow g3 _ _ hz)) rv hl.1 hl.2
            obtain ⟨ok4, g4, f4, nm⟩ := okf.wr (o := u) nt
            refine ⟨a, _, rfl, dp, ?_⟩
            have hi' : i < r.length := (List.getElem?_eq_some_iff.mp hr).1
            rw [setS, if_pos hi'] at q2
            have sl4 := kk3 W3 _ (.own (.dct (putK ky v kvs))) (some (.ref a)) [a] g4 (fun b hb => by
              rw [L2.upd_ne]
              rintro rfl
              exact nm (by simp at hb ⊢; rcases hb with z | z <;> simp [z])) ⟨a, rfl, rfl, mk W3 g4⟩
            rw [set_same e1] at sl4
            exact q2 W3 _ σ _ (g3.trans g4) (fun b o e z => f4 b o e (z.imp (fun z => by simp [z]) id)) sl4 (ok4.perm perm_front.symm)
          · exact q1.elim
        · exact q1.elim
  · exact q.elim
theorem g_kil {i : Nat} (K : PySem.W.Frag) (D : L2.Ends) (σ : L2.St) (H : Hp) (h : TIs K T WX (exS G Φ (.kil i)) D σ H) : D.nx σ H := by
  obtain ⟨W, S, r, A, F, sl, ok, q⟩ := h
  simp only [exS, setS] at q
  split at q
  · rename_i hi
    obtain ⟨x, hr⟩ : ∃ x, r[i]? = some x := ⟨r[i], List.getElem?_eq_getElem hi⟩
    obtain ⟨o, A1, A0, A2, e1, rfl, hx, k⟩ := sl.at hr
    have sl' := k W H .un o [] (Grow.refl _ _) (fun _ _ => rfl) rfl
    rw [set_same e1] at sl'
    refine q W H σ _ (Grow.refl _ _) (Fr.refl _ _ _) sl' ?_
    refine ok.subF ?_
    simp
  · exact q.elim
end
end SR

set_option linter.unusedVariables false
set_option linter.unusedSimpArgs false
set_option maxRecDepth 100000
set_option maxHeartbeats 0
/-! Statements about instances; refusals. -/
namespace SR
open PySem (Addr Str Value PyData Heap)
open L2 (V Hp HO Key upd Rd SqL SqT)
section
variable {G : Prg} {Φ : Phi}
/-- what leaves the store as it is -/
def Calm (R : Res) (S : Sto) : Prop := R = .bad ∨ ∃ v m, R = .ok v m S
def CalmA (R : Ress) (S : Sto) : Prop := R = .bad ∨ ∃ v, R = .ok v S
theorem calm_O {S : Sto} {o : Option (PV × Md)} : Calm (ofO S o) S := by
  unfold ofO
  split <;> first | exact .inr ⟨_, _, rfl⟩ | exact .inl rfl
theorem calm_B {S : Sto} {o : Option Bool} : Calm (ofB S o) S := by
  unfold ofB
  split <;> first | exact .inr ⟨_, _, rfl⟩ | exact .inl rfl
theorem calm_V {S : Sto} {o : Option PV} : Calm (ofV S o) S := by
  unfold ofV
  split <;> first | exact .inr ⟨_, _, rfl⟩ | exact .inl rfl
theorem calm_bind {R : Res} {S : Sto} {k : PV → Md → Sto → Res} (h : Calm R S) (hk : ∀ v m, Calm (k v m S) S) : Calm (R.bind k) S := by
  rcases h with rfl | ⟨v, m, rfl⟩
  · exact .inl rfl
  · exact hk v m
theorem calm_bindK {R : Res} {S : Sto} {s : Bool} {k : PV → Md → Sto → Res} (h : Calm R S) (hk : ∀ v m, Calm (k v m S) S) : Calm (R.bindK s k) S := by
  rcases h with rfl | ⟨v, m, rfl⟩
  · exact .inl rfl
  · rw [Res.bindK_ok]
    split
    · exact hk v m
    · exact .inl rfl
theorem simp_ok : ∀ (e : CE) (r : Env) (S : Sto), simpE e = true → Calm (evE G Φ e r S) S
  | .lit w, r, S, _ => by simp only [evE]; exact .inr ⟨_, _, rfl⟩
  | .var i, r, S, _ => by
    simp only [evE]
    split <;> first | exact .inr ⟨_, _, rfl⟩ | exact .inl rfl
  | .glob i, r, S, _ => by
    simp only [evE]
    split <;> first | exact .inr ⟨_, _, rfl⟩ | exact .inl rfl
  | .bin op a b, r, S, hs => by
    simp only [simpE, Bool.and_eq_true] at hs
    simp only [evE]
    exact calm_bindK (simp_ok a r S hs.1) fun x m => calm_bind (simp_ok b r S hs.2) fun y n => calm_O
  | .cmp op a b, r, S, hs => by
    simp only [simpE, Bool.and_eq_true] at hs
    simp only [evE]
    exact calm_bindK (simp_ok a r S hs.1) fun x m => calm_bind (simp_ok b r S hs.2) fun y n => calm_B
  | .sub a b, r, S, hs => by
    simp only [simpE, Bool.and_eq_true] at hs
    simp only [evE]
    refine calm_bindK (simp_ok a r S hs.1) fun x m => calm_bind (simp_ok b r S hs.2) fun y n => ?_
    split
    · exact calm_V
    · exact .inl rfl
  | .neg a, r, S, hs => by
    simp only [simpE] at hs
    simp only [evE]
    refine calm_bind (simp_ok a r S hs) fun y n => ?_
    split <;> first | exact .inr ⟨_, _, rfl⟩ | exact .inl rfl
  | .fld f a, r, S, hs => by
    simp only [simpE] at hs
    simp only [evE]
    refine calm_bind (simp_ok a r S hs) fun y n => ?_
    split <;> first | exact .inr ⟨_, _, rfl⟩ | exact .inl rfl
  | .isi t a, r, S, hs => by
    simp only [simpE] at hs
    simp only [evE]
    exact calm_bind (simp_ok a r S hs) fun y n => calm_B
  | .chn _ _ _ _ _, _, _, hs => by simp [simpE] at hs
  | .chn3 _ _ _ _ _ _ _, _, _, hs => by simp [simpE] at hs
  | .and _ _, _, _, hs => by simp [simpE] at hs
  | .or _ _, _, _, hs => by simp [simpE] at hs
  | .not _, _, _, hs => by simp [simpE] at hs
  | .ite _ _ _, _, _, hs => by simp [simpE] at hs
  | .tup _, _, _, hs => by simp [simpE] at hs
  | .lst _, _, _, hs => by simp [simpE] at hs
  | .dnw, _, _, hs => by simp [simpE] at hs
  | .dsp _ _, _, _, hs => by simp [simpE] at hs
  | .rev _, _, _, hs => by simp [simpE] at hs
  | .call _ _, _, _, hs => by simp [simpE] at hs
  | .meth _ _ _, _, _, hs => by simp [simpE] at hs
  | .make _ _, _, _, hs => by simp [simpE] at hs
  | .bi _ _, _, _, hs => by simp [simpE] at hs
  | .get1 _ _, _, _, hs => by simp [simpE] at hs
  | .get2 _ _ _, _, _, hs => by simp [simpE] at hs
  | .items _, _, _, hs => by simp [simpE] at hs
  | .join _ _, _, _, hs => by simp [simpE] at hs
  | .split _ _, _, _, hs => by simp [simpE] at hs
  | .count _ _, _, _, hs => by simp [simpE] at hs
  | .index _ _, _, _, hs => by simp [simpE] at hs
  | .mvf _ _, _, _, hs => by simp [simpE] at hs
  | .shf _ _, _, _, hs => by simp [simpE] at hs
  | .bi1 _ _, _, _, hs => by simp [simpE] at hs
  | .lc _ _ _, _, _, hs => by simp [simpE] at hs
  | .lcf _ _ _ _, _, _, hs => by simp [simpE] at hs
  | .box _, _, _, hs => by simp [simpE] at hs
  | .frz _, _, _, hs => by simp [simpE] at hs
  | .pop0 _, _, _, hs => by simp [simpE] at hs
  | .gsub _ _, _, _, hs => by simp [simpE] at hs
theorem simpA_ok : ∀ (es : CEs) (r : Env) (S : Sto), simpA es = true → CalmA (evA G Φ es r S) S
  | .nil, r, S, _ => by simp only [evA]; exact .inr ⟨_, rfl⟩
  | .cons e es, r, S, hs => by
    simp only [simpA, Bool.and_eq_true] at hs
    simp only [evA]
    rcases simp_ok (G := G) (Φ := Φ) e r S hs.1 with h | ⟨v, m, h⟩ <;> rw [h]
    · exact .inl rfl
    · rw [Res.bindA_ok]
      rcases simpA_ok es r S hs.2 with h | ⟨vs, h⟩ <;> rw [h]
      · exact .inl rfl
      · rw [Ress.bindA_ok]
        split <;> first | exact .inr ⟨_, rfl⟩ | exact .inl rfl
theorem simpT_ok {e : CE} {r : Env} {S : Sto} (hs : simpT e = true) : Calm (evE G Φ e r S) S := by
  cases e with
  | tup es =>
    simp only [simpT] at hs
    simp only [evE]
    rcases simpA_ok (G := G) (Φ := Φ) es r S hs with h | ⟨v, h⟩ <;> rw [h]
    · exact .inl rfl
    · exact .inr ⟨_, _, rfl⟩
  | _ => exact simp_ok _ r S hs
theorem simpT_same {e : CE} {r : Env} {S : Sto} {v : PV} {m : Md} {S' : Sto} (hs : simpT e = true) (h : evE G Φ e r S = .ok v m S') : S' = S := by
  rcases simpT_ok (G := G) (Φ := Φ) (r := r) (S := S) hs with c | ⟨v, m, c⟩ <;> rw [c] at h <;> cases h
  rfl
theorem simpT_exc {e : CE} {r : Env} {S : Sto} {c : Nat} {S' : Sto} (hs : simpT e = true) (h : evE G Φ e r S = .exc c S') : False := by
  rcases simpT_ok (G := G) (Φ := Φ) (r := r) (S := S) hs with c | ⟨v, m, c⟩ <;> rw [c] at h <;> cases h
end
section
variable {X : L2.Cx} {T : Tb} {G : Prg} {Φ : Phi} {g : Sg} {sc : PySem.Scope} {N : List Str} {exc : Nat → Value} {WX : WXn}
/-! ### tuples of such parts -/
def TIaS (K : PySem.W.Frag) (T : Tb) (WX : WXn) (ev : Env → Sto → Ress) : L2.TA := fun σ H Q => ∃ W S r A F, At K T W S r A F σ H ∧ match ev r S with
  | .ok vs S' => ∀ W' H' xs B, Grow W H W' H' → Fr H H' F true → SlsR K W' H' vs (xs.map some) B → Ok K T W' H' S' (B ++ F) → Q xs H'
  | .exc c S' => ∀ W' H', Grow W H W' H' → Fr H H' F true → Ok K T W' H' S' F → WX c σ H'
  | .bad => False
abbrev PAs (X : L2.Cx) (T : Tb) (WX : WXn) (es : List PySem.Expr) (ev : Env → Sto → Ress) : Prop := L2.PA X es (TIaS X.K T WX ev)
theorem as_nil : PAs X T WX [] (evA G Φ .nil) := pa_imp L2.pa_nil fun σ H Q ⟨W, S, r, A, F, a0, q⟩ => q W H [] [] (Grow.refl _ _) (Fr.refl _ _ _) ⟨rfl, rfl⟩ a0.ok
theorem as_cons {e : CE} {es : CEs} {pe : PySem.Expr} {pes : List PySem.Expr} (hs : noStar pe = true) (he : PEe X T WX pe true (evE G Φ e)) (hes : PAs X T WX pes (evA G Φ es)) : PAs X T WX (pe :: pes) (evA G Φ (.cons e es)) := by
  refine pa_imp (L2.pa_cons he hes (star_of hs)) fun σ H Q h => ?_
  obtain ⟨W, S, r, A, F, a0, q⟩ := h
  refine ⟨W, S, r, A, F, a0, ?_⟩
  simp only [evA] at q
  cases c1 : evE G Φ e r S with
  | bad => rw [c1] at q; exact q.elim
  | exc c S' => rw [c1] at q; exact q
  | ok v m S1 =>
    rw [c1] at q
    simp only [Res.bindA_ok] at q
    intro W1 H1 x g1 f1 hx ok1
    refine ⟨W1, S1, r, A, _, a0.next g1 f1 ok1, ?_⟩
    cases c2 : evA G Φ es r S1 with
    | bad => rw [c2] at q; exact q.elim
    | exc c S' =>
      rw [c2] at q
      exact fun W' H' g' f' ok => q W' H' (g1.trans g') (f1.trans f' id id) ok.drop
    | ok vs S2 =>
      rw [c2] at q
      simp only [Ress.bindA_ok] at q
      intro W2 H2 xs B g2 f2 hxs ok2
      cases m with
      | sh =>
        refine q W2 H2 (x :: xs) B (g1.trans g2) (f1.trans f2 id id) ?_ ok2
        exact ⟨some x, _, [], B, rfl, rfl, ⟨rfl, x, rfl, RepV.grow g2 _ _ hx⟩, hxs⟩
      | own =>
        obtain ⟨a, rfl, ow⟩ := hx
        obtain ⟨o, e⟩ := ow.some
        refine q W2 H2 (.ref a :: xs) ([a] ++ B) (g1.trans g2) (f1.trans f2 id id) ⟨_, _, [a], B, rfl, rfl, ⟨a, rfl, rfl, ow.grow g2 (by rw [e, f2 a o e (.inr rfl)])⟩, hxs⟩ ?_
        refine ok2.perm ?_
        show (B ++ ([a] ++ F)).Perm (([a] ++ B) ++ F)
        rw [← List.append_assoc]
        exact List.perm_append_comm.append_right F
      | bor => exact q.elim
      | brf => exact q.elim
theorem e_tupS {es : CEs} {pes : List PySem.Expr} {k : Nat} {pos : PySem.Pos} (h : PAs X T WX pes (evA G Φ es)) (hl : es.len ≤ 1000) : PEe X T WX (.Tuple pes k pos) true (evE G Φ (.tup es)) := by
  refine pe_imp (L2.pe_tup h) fun σ H Q h => ?_
  obtain ⟨W, S, r, A, F, a0, q⟩ := h
  refine ⟨W, S, r, A, F, a0, ?_⟩
  simp only [evE] at q
  cases c : evA G Φ es r S with
  | bad => rw [c] at q; exact q.elim
  | exc e S' => rw [c] at q; exact q
  | ok vs S1 =>
    rw [c] at q
    simp only [Ress.bind_ok] at q
    intro W1 H1 xs B g1 f1 hx ok1
    have hlen : xs.length ≤ PySem.sizeLine := by
      have e1 := hx.len
      rw [List.length_map, evA_len es r S vs S1 c] at e1
      rw [e1]
      exact Nat.le_of_lt (L2.small1000 hl)
    refine ⟨hlen, fun p np => ?_⟩
    have rs := share_reps (B := B) (evA_un es r S vs S1 c) hx fun a ha => ha
    have ok2 := ok1.addL
    have g2 : Grow W H (W1.addL B) H1 := g1.trans Grow.addL
    refine fin_tup (W := W1.addL B) (F := F) ok2 np rs fun W' H' z g' f' hz ok' => ?_
    exact q W' H' z (g2.trans g') (fun a o e hh => f' a o (f1 a o e hh) (.inr rfl)) hz ok'
/-! ### fields set -/
theorem frN {H H1 : Hp} {B A F : List Addr} {s : Bool} (f : Fr H H1 (B ++ (A ++ F)) s) : Fr H H1 F false := fun a o e z => f a o e (z.imp (fun z => by simp [z]) no_t)
/-- the heap behind a store into an instance -/
theorem obj_write {K : PySem.W.Frag} {W : Wd} {H : Hp} {S : Sto} {F E : List Addr} {l c f : Nat} {fs : List (Nat × Sl)} {s : Sl} {x : Str} {y : V} {b : Addr} (hcl : ∀ c, T.ok c → L2.Cls K (T.cls c) ∧ ∀ x ∈ T.fns, L2.NoAttr K (T.cls c) x) (hf : T.fns[f]? = some x) (ok : Ok K T W H S (E ++ F)) (e1 : S[l]? = some (.ins c fs)) (e3 : W.m[l]? = some b) (hl : fs.length < 100) (hs : SlR K W H s (some y) E) :
    ∃ C dx gs, H b = some (.ins C dx gs) ∧ L2.Cls K C ∧ L2.NoAttr K C x ∧ gs.length < 1000 ∧ (∀ a ∈ E ++ F, a ≠ b) ∧ Grow W H W (upd H b (.ins C dx (L2.putF x y gs))) ∧ Ok K T W (upd H b (.ins C dx (L2.putF x y gs))) (S.set l (.ins c (ptF f s fs))) F := by
  obtain ⟨b', dx, gs, B, P, R, e4, h0, h1, h2, h3, nd, hll, k⟩ := ok.obj e1
  rw [e3] at e4
  cases e4
  have nsh : ¬ W.sh b := (hll b (by simp)).2
  have gr : Grow W H W (upd H b (.ins (T.cls c) dx (L2.putF x y gs))) := Grow.wr nsh
  have hp : ((E ++ F) ++ (P ++ ((b :: dx :: B) ++ R))).Perm (b :: ((E ++ F) ++ (P ++ (dx :: B ++ R)))) := List.perm_iff_count.mpr fun z => by simp only [List.count_append, List.count_cons, List.count_nil]; omega
  have ne : ∀ a ∈ (E ++ F) ++ (P ++ (dx :: B ++ R)), a ≠ b := fun a ha z => (List.nodup_cons.mp (hp.nodup_iff.mp nd)).1 (z ▸ ha)
  have sm : ∀ a, a ≠ b → upd H b (.ins (T.cls c) dx (L2.putF x y gs)) a = H a := fun a h => L2.upd_ne h
  have hs' : SlR K W (upd H b (.ins (T.cls c) dx (L2.putF x y gs))) s (some y) E := hs.grow gr fun a ha => sm a (ne a (by simp [ha]))
  have hdx : upd H b (.ins (T.cls c) dx (L2.putF x y gs)) dx = some (.own b) := by rw [sm dx (ne dx (by simp))]; exact h2
  refine ⟨T.cls c, dx, gs, h1, (hcl c h0).1, (hcl c h0).2 x (List.mem_of_getElem? hf), by rw [h3.len]; omega, fun a ha => ne a (by rcases List.mem_append.mp ha with z | z <;> simp [z]), gr, ?_⟩
  have hl' : ∀ a ∈ (E ++ F) ++ (P ++ ((b :: dx :: B) ++ R)), (∃ o, upd H b (.ins (T.cls c) dx (L2.putF x y gs)) a = some o ∧ nT o) ∧ ¬ W.sh a := fun a ha => lk_wr trivial (hll a ha)
  cases e2 : lkF f fs with
  | some s0 =>
    obtain ⟨v, A1, A0, A2, e5, eB, e6, kk⟩ := h3.at hf e2
    have fr := kk W _ s y E gr (fun a ha => sm a (ne a (by rw [eB]; simp at ha ⊢; rcases ha with z | z <;> simp [z]))) hs'
    refine Ok.build (D := A0) ?_ nd hl' (k W _ (.ins c (ptF f s fs)) (b :: dx :: (A1 ++ (E ++ A2))) gr (fun a ha => sm a (ne a (by simp at ha ⊢; rcases ha with z | z <;> simp [z]))) ⟨h0, dx, _, _, rfl, L2.upd_same, hdx, fr⟩) (shd_wr ok.shd)
    rw [eB]
    exact List.perm_iff_count.mpr fun z => by simp only [List.count_append, List.count_cons, List.count_nil]; omega
  | none =>
    have fr := h3.new hf e2 W _ s y E gr (fun a ha => sm a (ne a (by simp [ha]))) hs'
    refine Ok.build (D := []) ?_ nd hl' (k W _ (.ins c (ptF f s fs)) (b :: dx :: (B ++ E)) gr (fun a ha => sm a (ne a (by simp at ha ⊢; rcases ha with z | z <;> simp [z]))) ⟨h0, dx, _, _, rfl, L2.upd_same, hdx, fr⟩) (shd_wr ok.shd)
    exact List.perm_iff_count.mpr fun z => by simp only [List.count_append, List.count_cons, List.count_nil]; omega
theorem s_fset (C : Ctx X T G Φ g sc N exc WX) {f : Nat} {x : Str} {o e : CE} {po pe : PySem.Expr} {p1 pos : PySem.Pos} (hf' : g.flds[f]? = some x) (hc : noComp pe = true) (ho : PEe X T WX po (simpE o) (evE G Φ o)) (h : PEe X T WX pe (simpE e) (evE G Φ e)) :
    PSe X T WX (.Assign [.Attribute po x p1] pe pos) (exS G Φ (.fset f o e)) := by
  have hf := C.fl f x hf'
  refine ps_imp (L2.ps_fld ho h (swaps_of hc)) fun D σ H h => ?_
  obtain ⟨W, S, r, A, F, sl, ok, q⟩ := h
  have a0 : At X.K T W S r A (A ++ F) σ H := ⟨sl, fun a ha => List.mem_append_left _ ha, ok⟩
  refine ⟨W, S, r, A, A ++ F, a0, ?_⟩
  simp only [exS] at q
  cases c : evE G Φ e r S with
  | bad => rw [c] at q; exact q.elim
  | exc x S' => rw [c] at q; exact fun W' H' g' f' ok' => q W' H' σ A g' (frA f') (a0.same g' f' ok').sl ok'
  | ok v m S1 =>
    rw [c] at q
    simp only [Res.bindS_ok] at q
    intro W1 H1 y g1 f1 hy ok1
    have a1 := a0.next g1 f1 ok1
    refine ⟨W1, S1, r, A, _, a1, ?_⟩
    have q1 := q.step g1 (frA f1)
    cases c2 : evE G Φ o r S1 with
    | bad => rw [c2] at q1; exact q1.elim
    | exc x S' =>
      rw [c2] at q1
      exact fun W' H' g' f' ok' => q1 W' H' σ A g' (frN f') (a1.same g' f' ok').sl ok'.drop
    | ok u n S2 =>
      rw [c2] at q1
      simp only [Res.bindS_ok] at q1
      intro W2 H2 z g2 f2 hz ok2
      have a2 := a1.next g2 f2 ok2
      have q2 := q1.step g2 (frN f2)
      cases hmd : md v m with
      | none => rw [hmd] at q2; exact q2.elim
      | some s =>
        rw [hmd] at q2
        dsimp only at q2
        split at q2
        · rename_i S3 hp
          obtain ⟨l, cc, fs, rfl, e1, e9, rfl⟩ := putS_some hp
          obtain ⟨rfl, b, e3, rfl⟩ := obj_held hz
          have ok2 : Ok X.K T W2 H2 S2 (ownA m y ++ (A ++ F)) := ok2
          have hs : SlR X.K W2 H2 s (some y) (ownA m y) := by
            cases m with
            | sh =>
              cases hmd
              exact ⟨rfl, y, rfl, RepV.grow g2 _ _ hy⟩
            | own =>
              cases hmd
              obtain ⟨d, rfl, ow⟩ := hy
              obtain ⟨o', eo⟩ := ow.some
              exact ⟨d, rfl, rfl, ow.grow g2 (by rw [eo, f2 d o' eo (.inl (by simp [ownA]))])⟩
            | bor => cases hmd
            | brf => cases hmd
          obtain ⟨C', dx, gs, h1, h2, h3, h4, h5, gr, okn⟩ := obj_write C.cl hf ok2 e1 e3 e9 hs
          refine ⟨b, C', dx, gs, rfl, h1, h2, h3, h4, ?_⟩
          refine q2 W2 _ σ A gr (fun a o' e _ => ?_) (a2.sl.grow gr fun a ha => L2.upd_ne (h5 a (by simp [ha]))) okn
          by_cases za : a = b
          · subst za
            exfalso
            rename_i hh
            rcases hh with hh | hh
            · exact h5 a (by simp [hh]) rfl
            · cases hh
          · rw [L2.upd_ne za]; exact e
        · exact q2.elim
theorem s_fmov (C : Ctx X T G Φ g sc N exc WX) {f i j : Nat} {x xi xj : Str} {p1 p2 p3 pos : PySem.Pos} (hf' : g.flds[f]? = some x) (hi : N[i]? = some xi) (hv : visB sc xi = true) (hp : plain xi = true) (hj : N[j]? = some xj) (hvj : visB sc xj = true) (hpj : plain xj = true) :
    PSe X T WX (.Assign [.Attribute (.Name xj p1) x p2] (.Name xi p3) pos) (exS G Φ (.fmov f j i)) := by
  have hf := C.fl f x hf'
  unfold plain at hp hpj
  simp only [Bool.and_eq_true, Bool.not_eq_true'] at hp hpj
  refine ps_imp (L2.ps_fld (L2.pe_var (i := j) (by rw [C.hN]; exact hj) (vis_of C hvj) hpj.1 hpj.2) (L2.pe_var (i := i) (by rw [C.hN]; exact hi) (vis_of C hv) hp.1 hp.2) (swaps_of rfl)) fun D σ H h => ?_
  obtain ⟨W, S, r, A, F, sl, ok, q⟩ := h
  simp only [exS] at q
  split at q
  · rename_i v u hr hu
    split at q
    · rename_i S2 hp
      obtain ⟨l, cc, fs, rfl, e1, e9, rfl⟩ := putS_some hp
      obtain ⟨o, A1, A0, A2, e2, rfl, ⟨d, rfl, rfl, ow⟩, k⟩ := sl.at hr
      obtain ⟨o', B', e4, ⟨_, z, rfl, rep⟩, _⟩ := sl.get hu
      simp only [RepV] at rep
      obtain ⟨b, e3, rfl⟩ := rep
      have ok2 : Ok X.K T W H S ([d] ++ ((A1 ++ A2) ++ F)) := ok.perm (List.perm_iff_count.mpr fun z => by simp only [List.count_append, List.count_cons, List.count_nil]; omega)
      obtain ⟨C', dx, gs, h1, h2, h3, h4, h5, gr, okn⟩ := obj_write C.cl hf ok2 e1 e3 e9 (s := .own v) (y := .ref d) ⟨d, rfl, rfl, ow⟩
      refine ⟨_, e2, _, e4, b, C', dx, gs, rfl, h1, h2, h3, h4, ?_⟩
      have sl' := k W _ .un (some (.ref d)) [] gr (fun a ha => L2.upd_ne (h5 a (by simp at ha ⊢; rcases ha with z | z <;> simp [z]))) rfl
      rw [set_same e2] at sl'
      have hi' : i < r.length := (List.getElem?_eq_some_iff.mp hr).1
      rw [setS, if_pos hi'] at q
      refine q W _ σ _ gr (fun a o' e hh => ?_) sl' (okn.perm (by simp))
      by_cases za : a = b
      · subst za
        exfalso
        rcases hh with hh | hh
        · exact h5 a (by simp [hh]) rfl
        · cases hh
      · rw [L2.upd_ne za]; exact e
    · exact q.elim
  · rename_i v u hr hu
    split at q
    · rename_i S2 hp
      obtain ⟨l, cc, fs, rfl, e1, e9, rfl⟩ := putS_some hp
      obtain ⟨o, B, e2, ⟨_, w, rfl, rv⟩, _⟩ := sl.get hr
      obtain ⟨o', B', e4, ⟨_, z, rfl, rep⟩, _⟩ := sl.get hu
      simp only [RepV] at rep
      obtain ⟨b, e3, rfl⟩ := rep
      obtain ⟨C', dx, gs, h1, h2, h3, h4, h5, gr, okn⟩ := obj_write (E := []) C.cl hf ok e1 e3 e9 (s := .sh v) (y := w) ⟨rfl, w, rfl, rv⟩
      refine ⟨_, e2, _, e4, b, C', dx, gs, rfl, h1, h2, h3, h4, ?_⟩
      refine q W _ σ A gr (fun a o' e hh => ?_) (sl.grow gr fun a ha => L2.upd_ne (h5 a (by simp [ha]))) okn
      by_cases za : a = b
      · subst za
        exfalso
        rcases hh with hh | hh
        · exact h5 a (by simp [hh]) rfl
        · cases hh
      · rw [L2.upd_ne za]; exact e
    · exact q.elim
  · exact q.elim
/-! ### what an object holds is written -/
/-- a list or dict of an object's own is written -/
theorem fld_write {K : PySem.W.Frag} {W : Wd} {H : Hp} {S : Sto} {F : List Addr} {l c f : Nat} {fs : List (Nat × Sl)} {v w : PV} {x : Str} {b : Addr} (hf : T.fns[f]? = some x) (ok : Ok K T W H S F) (e1 : S[l]? = some (.ins c fs)) (e3 : W.m[l]? = some b) (e2 : lkF f fs = some (.own v)) :
    ∃ C dx gs p, H b = some (.ins C dx gs) ∧ T.ok c ∧ C = T.cls c ∧ gs.lookup x = some (.ref p) ∧ OwnR K W H v p ∧ (∀ a ∈ F, a ≠ p) ∧ ∀ o, nT o → Grow W H W (upd H p o) ∧ (OwnR K W (upd H p o) w p → Ok K T W (upd H p o) (S.set l (.ins c (ptF f (.own w) fs))) F) := by
  obtain ⟨b', dx, gs, B, P, R, e4, h0, h1, h2, h3, nd, hll, k⟩ := ok.obj e1
  rw [e3] at e4
  cases e4
  obtain ⟨v', A1, A0, A2, e5, eB, ⟨p, rfl, ev, ow⟩, kk⟩ := h3.at hf e2
  cases ev
  subst eB
  have hp : (F ++ (P ++ ((b :: dx :: (A1 ++ ([p] ++ A2))) ++ R))).Perm (p :: (F ++ (P ++ (b :: dx :: (A1 ++ A2) ++ R)))) := List.perm_iff_count.mpr fun z => by simp only [List.count_append, List.count_cons, List.count_nil]; omega
  have ne : ∀ a ∈ F ++ (P ++ (b :: dx :: (A1 ++ A2) ++ R)), a ≠ p := fun a ha z => (List.nodup_cons.mp (hp.nodup_iff.mp nd)).1 (z ▸ ha)
  have nsh : ¬ W.sh p := (hll p (by simp)).2
  refine ⟨_, dx, gs, p, h1, h0, rfl, e5, ow, fun a ha => ne a (by simp [ha]), fun o nt => ⟨Grow.wr nsh, fun ow' => ?_⟩⟩
  have gr : Grow W H W (upd H p o) := Grow.wr nsh
  have sm : ∀ a, a ≠ p → upd H p o a = H a := fun a h => L2.upd_ne h
  have fr := kk W _ (.own w) (.ref p) [p] gr (fun a ha => sm a (ne a (by simp at ha ⊢; rcases ha with z | z <;> simp [z]))) ⟨p, rfl, rfl, ow'⟩
  rw [putF_same e5] at fr
  refine Ok.build (D := []) ?_ nd (fun a ha => lk_wr nt (hll a ha)) (k W _ (.ins c (ptF f (.own w) fs)) (b :: dx :: (A1 ++ ([p] ++ A2))) gr (fun a ha => sm a (ne a (by simp at ha ⊢; rcases ha with z | z <;> simp [z]))) ⟨h0, dx, gs, _, rfl, by rw [sm b (ne b (by simp))]; exact h1, by rw [sm dx (ne dx (by simp))]; exact h2, fr⟩) (shd_wr ok.shd)
  exact List.perm_iff_count.mpr fun z => by simp only [List.count_append, List.count_cons, List.count_nil]; omega
theorem s_appF (C : Ctx X T G Φ g sc N exc WX) {f : Nat} {x : Str} {o e : CE} {po pe : PySem.Expr} {p1 ap cp pos : PySem.Pos} (hf' : g.flds[f]? = some x) (hb : notSuper po = true) (hn : noStar pe = true) (hl : (ap.endLine == cp.line) = true) (hse : simpT e = true) (ho : PEe X T WX po (simpE o) (evE G Φ o)) (h : PEe X T WX pe true (evE G Φ e)) :
    PSe X T WX (.Expr (.Call (.Attribute (.Attribute po x p1) "append" ap) [pe] [] cp) pos) (exS G Φ (.appF f o e)) := by
  have hf := C.fl f x hf'
  refine ps_imp (L2.ps_expr (L2.pe_bm PySem.F.plainAttrs_list PySem.F.slot_list_append PySem.F.type_list_append L2.mt_append (L2.pe_fld (pos := p1) ho (base_of hb)) (L2.pa_cons h L2.pa_nil (star_of hn)) rfl (few_of hn) hl (star_of hn) rfl) rfl) fun D σ H h => ?_
  obtain ⟨W, S, r, A, F, sl, ok, q⟩ := h
  have a0 : At X.K T W S r A (A ++ F) σ H := ⟨sl, fun a ha => List.mem_append_left _ ha, ok⟩
  refine ⟨W, S, r, A, A ++ F, a0, ?_⟩
  simp only [exS] at q
  cases c : evE G Φ o r S with
  | bad => rw [c] at q; exact q.elim
  | exc x S' => rw [c] at q; exact fun W' H' g' f' ok' => q W' H' σ A g' (frA f') (a0.same g' f' ok').sl ok'
  | ok u n S1 =>
    rw [c] at q
    simp only [Res.bindS_ok] at q
    intro W1 H1 z g1 f1 hz ok1
    have a1 := a0.next g1 f1 ok1
    have q1 := q.step g1 (frA f1)
    cases c2 : evE G Φ e r S1 with
    | bad => rw [c2] at q1; exact q1.elim
    | exc x S' =>
      rw [c2] at q1
      exfalso
      exact simpT_exc hse c2
    | ok v m S2 =>
      rw [c2] at q1
      obtain rfl := simpT_same hse c2
      simp only [Res.bindS_ok, hse, Bool.true_and] at q1
      cases hm : m.fin with
      | false => rw [hm] at q1; exact q1.elim
      | true =>
        rw [hm, if_pos rfl] at q1
        unfold appFR at q1
        split at q1
        · rename_i xs hg
          split at q1
          · rename_i hlim
            obtain ⟨l, cc, fs, rfl, e1, e2⟩ := getF_some hg
            obtain ⟨rfl, b, e3, rfl⟩ := obj_held hz
            have ok1 : Ok X.K T W1 H1 S2 (A ++ F) := ok1
            obtain ⟨C', dx, gs, p, h1, h0, rfl, h4, ⟨vs, hv, rp⟩, h6, _⟩ := fld_write (w := .lst []) hf ok1 e1 e3 e2
            refine ⟨b, _, dx, gs, _, rfl, h1, (C.cl cc h0).1, (C.cl cc h0).2 x (List.mem_of_getElem? hf), h4, .inl ⟨rfl, vs, .of hv⟩, W1, S2, r, A, A ++ F, a1, ?_⟩
            rw [c2]
            intro W2 H2 y g2 f2 hy ok2
            have q2 := q1.step g2 (fun a o e z => f2 a o e (.inr rfl))
            split at q2
            · rename_i S3 hp3
              obtain ⟨l', cc', fs', el, e1', e9, rfl⟩ := putS_some hp3
              cases el
              rw [e1] at e1'
              cases e1'
              -- the value is shared
              obtain ⟨W3, g3, ok3, rv⟩ : ∃ W3, Grow W2 H2 W3 H2 ∧ Ok X.K T W3 H2 S2 (A ++ F) ∧ RepV X.K W3 H2 v y := by
                cases m with
                | sh => exact ⟨W2, Grow.refl _ _, ok2, hy⟩
                | own =>
                  obtain ⟨b, rfl, ob⟩ := hy
                  have ok2' : Ok X.K T W2 H2 S2 ([b] ++ (A ++ F)) := ok2
                  exact ⟨_, Grow.addL, ok2'.addL, ob.shared (by simp)⟩
                | bor => cases hm
                | brf => cases hm
              have g23 := g2.trans g3
              obtain ⟨t, et⟩ := g23.m
              have e3' : W3.m[l]? = some b := by
                rw [et, List.getElem?_append_left (List.getElem?_eq_some_iff.mp e3).1]
                exact e3
              obtain ⟨C', dx', gs', p', h1', h0', eC, h4', ⟨vs', hv', rp'⟩, h6', mk⟩ := fld_write (w := .lst (xs ++ [v])) hf ok3 e1 e3' e2
              have : H2 b = some (.ins (T.cls cc) dx gs) := f2 b _ h1 (.inr rfl)
              rw [this] at h1'
              cases h1'
              rw [h4] at h4'
              cases h4'
              obtain ⟨gr, okn⟩ := mk (.lst (vs' ++ [y])) trivial
              refine ⟨p, vs', y, rfl, rfl, hv', by rw [rp'.len]; exact Nat.lt_of_lt_of_le hlim (lim_size (Nat.le_refl _)), ?_⟩
              have okn := okn ⟨_, L2.upd_same, RepVs.append (rp'.grow gr _ _) (by simp only [RepVs]; exact ⟨y, [], rfl, rv.grow gr _ _, rfl⟩)⟩
              refine q2 W3 _ σ A (g3.trans gr) (fun a o' e hh => ?_) (((a1.next g2 f2 ok2).sl.grow g3 fun _ _ => rfl).grow gr fun a ha => L2.upd_ne (h6' a (by simp [ha]))) okn
              rw [L2.upd_ne]
              · exact e
              · rintro rfl
                rcases hh with hh | hh
                · exact h6' a (by simp [hh]) rfl
                · cases hh
            · exact q2.elim
          · exact q1.elim
        · exact q1.elim
theorem s_dsetF (C : Ctx X T G Φ g sc N exc WX) {f : Nat} {x : Str} {o k e : CE} {po pk pe : PySem.Expr} {p1 p2 pos : PySem.Pos} (hf' : g.flds[f]? = some x) (hb : notSuper po = true) (hc : noComp pe = true) (hse : simpE k = true) (ho : PEe X T WX po (simpE o) (evE G Φ o)) (hk : PEe X T WX pk (simpE k) (evE G Φ k)) (h : PEe X T WX pe (simpE e) (evE G Φ e)) :
    PSe X T WX (.Assign [.Subscript (.Attribute po x p1) pk p2] pe pos) (exS G Φ (.dsetF f o k e)) := by
  have hf := C.fl f x hf'
  refine ps_imp (ps_dputE (by have := C.units; omega) (L2.pe_fld (pos := p1) ho (base_of hb)) hk h (swaps_of hc)) fun D σ H h => ?_
  obtain ⟨W, S, r, A, F, sl, ok, q⟩ := h
  have a0 : At X.K T W S r A (A ++ F) σ H := ⟨sl, fun a ha => List.mem_append_left _ ha, ok⟩
  refine ⟨W, S, r, A, A ++ F, a0, ?_⟩
  simp only [exS] at q
  cases c : evE G Φ e r S with
  | bad => rw [c] at q; exact q.elim
  | exc x S' => rw [c] at q; exact fun W' H' g' f' ok' => q W' H' σ A g' (frA f') (a0.same g' f' ok').sl ok'
  | ok v m S1 =>
    rw [c] at q
    simp only [Res.bindS_ok] at q
    intro W1 H1 y g1 f1 hy ok1
    have a1 := a0.next g1 f1 ok1
    refine ⟨W1, S1, r, A, _, a1, ?_⟩
    have q1 := q.step g1 (frA f1)
    cases c2 : evE G Φ o r S1 with
    | bad => rw [c2] at q1; exact q1.elim
    | exc x S' =>
      rw [c2] at q1
      exact fun W' H' g' f' ok' => q1 W' H' σ A g' (frN f') (a1.same g' f' ok').sl ok'.drop
    | ok u n S2 =>
      rw [c2] at q1
      simp only [Res.bindS_ok] at q1
      intro W2 H2 z g2 f2 hz ok2
      have a2 := a1.next g2 f2 ok2
      have q2 := q1.step g2 (frN f2)
      have kx := simp_ok (G := G) (Φ := Φ) k r S2 hse
      rcases kx with kx | ⟨kv, kn, kx⟩
      · rw [kx] at q2; exact q2.elim
      · rw [kx] at q2
        simp only [Res.bindS_ok, hse, Bool.true_and] at q2
        split at q2
        · rename_i hmn
          simp only [Bool.and_eq_true] at hmn
          obtain rfl : kn = .sh := by cases kn <;> simp_all [Md.isSh]
          unfold dsetFR at q2
          split at q2
          · rename_i kvs ky hg hky
            split at q2
            · rename_i hlim
              obtain ⟨l, cc, fs, rfl, e1, e2⟩ := getF_some hg
              obtain ⟨rfl, b, e3, rfl⟩ := obj_held hz
              have ok2 : Ok X.K T W2 H2 S2 (ownA m y ++ (A ++ F)) := ok2
              obtain ⟨C', dx, gs, p, h1, h0, rfl, h4, ow0, h6, _⟩ := fld_write (w := .lst []) hf ok2 e1 e3 e2
              refine ⟨b, _, dx, gs, _, rfl, h1, (C.cl cc h0).1, (C.cl cc h0).2 x (List.mem_of_getElem? hf), h4, W2, S2, r, A, _, a2, ?_⟩
              rw [kx]
              intro W3 H3 w g3 f3 hw ok3
              rw [hse] at f3
              have hw : RepV X.K W3 H3 kv w := hw
              have ok3 : Ok X.K T W3 H3 S2 (ownA m y ++ (A ++ F)) := ok3
              have q3 := q2.step g3 (fun a o e z => f3 a o e (.inr rfl))
              split at q3
              · rename_i S3 hp3
                obtain ⟨l', cc', fs', el, e1', e9, rfl⟩ := putS_some hp3
                cases el
                rw [e1] at e1'
                cases e1'
                -- the value is shared
                obtain ⟨W4, g4, ok4, rv⟩ : ∃ W4, Grow W3 H3 W4 H3 ∧ Ok X.K T W4 H3 S2 (A ++ F) ∧ RepV X.K W4 H3 v y := by
                  cases m with
                  | sh => exact ⟨W3, Grow.refl _ _, ok3, RepV.grow (g2.trans g3) _ _ hy⟩
                  | own =>
                    obtain ⟨d, rfl, od⟩ := hy
                    obtain ⟨o', eo⟩ := od.some
                    have e5 : H3 d = some o' := f3 d o' (f2 d o' eo (.inl (by simp [ownA]))) (.inr rfl)
                    have od3 : OwnR X.K W3 H3 v d := od.grow (g2.trans g3) (by rw [eo, e5])
                    have ok3' : Ok X.K T W3 H3 S2 ([d] ++ (A ++ F)) := ok3
                    exact ⟨_, Grow.addL, ok3'.addL, od3.shared (by simp)⟩
                  | bor => cases hmn.1
                  | brf => cases hmn.1
                have g34 := g3.trans g4
                obtain ⟨t, et⟩ := g34.m
                have e3' : W4.m[l]? = some b := by
                  rw [et, List.getElem?_append_left (List.getElem?_eq_some_iff.mp e3).1]
                  exact e3
                obtain ⟨C', dx', gs', p', h1', h0', eC, h4', ow', h6', mk⟩ := fld_write (w := .dct (putK ky v kvs)) hf ok4 e1 e3' e2
                have : H3 b = some (.ins (T.cls cc) dx gs) := f3 b _ h1 (.inr rfl)
                rw [this] at h1'
                cases h1'
                rw [h4] at h4'
                cases h4'
                obtain ⟨uu, nt, dp, mk2⟩ := dput_own ow' (key_of hky (RepV.grow g4 _ _ hw)) rv hlim.1 hlim.2
                obtain ⟨gr, okn⟩ := mk uu nt
                refine ⟨p, _, rfl, dp, ?_⟩
                have okn := okn (mk2 W4 gr)
                refine q3 W4 _ σ A (g4.trans gr) (fun a o' e hh => ?_) (((a2.next (B := []) g3 f3 ok3).sl.grow g4 fun _ _ => rfl).grow gr fun a ha => L2.upd_ne (h6' a (by simp [ha]))) okn
                rw [L2.upd_ne]
                · exact e
                · rintro rfl
                  rcases hh with hh | hh
                  · exact h6' a (by simp [hh]) rfl
                  · cases hh
              · exact q3.elim
            · exact q2.elim
          · exact q2.elim
        · exact q2.elim
/-! ### refusals -/
theorem s_raise (C : Ctx X T G Φ g sc N exc WX) {c : Nat} {x m : Str} {j : Nat} {p p2 pos rpos : PySem.Pos} (hx : g.exs c = some x) (hg : glB sc x = true) :
    PSe X T WX (.Raise (some (.Call (.Name x p) [.Constant (.str m) j p2] [] pos)) none rpos) (exS G Φ (.raise c)) := by
  obtain ⟨hd, a, e1, e2, e3, e4, e5, e6⟩ := C.rz c x hx
  refine ps_imp (L2.ps_raise C.calm C.tk (L2.pmk_own PySem.F.excBase_ValueError e4 e2 e3 (L2.raises_own e5 e6) (gl_of C hg) hd)) fun D σ H h => ?_
  obtain ⟨W, S, r, A, F, sl, ok, q⟩ := h
  simp only [exS] at q
  exact ⟨c, e1.symm, rfl, q W H σ A (Grow.refl _ _) (Fr.refl _ _ _) sl ok⟩
end
end SR

set_option linter.unusedVariables false
set_option maxRecDepth 100000
set_option maxHeartbeats 0
/-! Statements checked. -/
namespace SR
open PySem (Addr Str Value PyData Heap)
open L2 (V Hp HO Key upd Rd SqL SqT)
def isShr : CS → Bool
  | .shr _ => true
  | .kil _ => true
  | _ => false
mutual
def ckS (g : Sg) (N : List Str) (sc : PySem.Scope) : CS → PySem.Stmt → Bool
  | .asg t e, st => match st with
    | .Assign [.Tuple ts k tp] pe _ => ckT sc N t (.Tuple ts k tp) && plainV pe && ckE g N e sc pe
    | .Assign [.Name x p] (.ListComp el [⟨tg, iter, ifs, 0⟩] scope cp) _ => match t, e with
      | .nm i, .lc elt t it => decide (N[i]? = some x) && locB sc x && ckI g N it sc tg iter && L2.blkC N sc scope (ownOf N t) && names2 (ownOf N t) t && ckT scope N t tg && ckE g N elt scope el && noSet iter && ifs.isEmpty
      | .nm i, .lcf elt t it c => decide (N[i]? = some x) && locB sc x && ckI g N it sc tg iter && L2.blkC N sc scope (ownOf N t) && names2 (ownOf N t) t && ckT scope N t tg && ckE g N elt scope el && noSet iter && (match ifs with
        | [q] => ckC g N c scope q
        | _ => false)
      | _, _ => false
    | .Assign [.Name x p] pe _ => match t with
      | .nm i => decide (N[i]? = some x) && locB sc x && noComp pe && ckE g N e sc pe
      | _ => false
    | _ => false
  | .app i e, st => match st with
    | .Expr (.Call (.Attribute (.Name x _) a ap) [pe] [] cp) _ => decide (a = "append") && decide (N[i]? = some x) && visB sc x && plain x && noStar pe && (ap.endLine == cp.line) && ckE g N e sc pe
    | _ => false
  | .ext i e, st => match st with
    | .Expr (.Call (.Attribute (.Name x _) a ap) [pe] [] cp) _ => decide (a = "extend") && decide (N[i]? = some x) && visB sc x && plain x && noStar pe && (ap.endLine == cp.line) && ckE g N e sc pe
    | _ => false
  | .dset i k e, st => match st with
    | .Assign [.Subscript (.Name x _) pk _] pe _ => decide (N[i]? = some x) && visB sc x && plain x && noComp pe && ckE g N e sc pe && ckE g N k sc pk
    | _ => false
  | .expr e, st => match st with
    | .Expr pe _ => noComp pe && ckE g N e sc pe
    | _ => false
  | .ret e, st => match st with
    | .Return (some pe) _ => ckE g N e sc pe
    | _ => false
  | .retn, st => match st with
    | .Return none _ => true
    | _ => false
  | .retv i, st => match st with
    | .Return (some (.Name x _)) _ => decide (N[i]? = some x) && visB sc x && plain x
    | _ => false
  | .ife c a b, st => match st with
    | .If pc pa pb _ => ckC g N c sc pc && ckB g N sc a pa && ckB g N sc b pb
    | _ => false
  | .whl c b, st => match st with
    | .While pc pb [] _ => ckC g N c sc pc && ckB g N sc b pb
    | _ => false
  | .for_ t it b, st => match st with
    | .For tg iter pb [] _ => noSet iter && ckT sc N t tg && ckI g N it sc tg iter && ckB g N sc b pb
    | _ => false
  | .brk, st => match st with
    | .Break _ => true
    | _ => false
  | .cnt, st => match st with
    | .Continue _ => true
    | _ => false
  | .pass, st => match st with
    | .Pass _ => true
    | _ => false
  | .fset f o e, st => match st with
    | .Assign [.Attribute po x _] pe _ => decide (g.flds[f]? = some x) && noComp pe && ckE g N o sc po && ckE g N e sc pe
    | _ => false
  | .fmov f j i, st => match st with
    | .Assign [.Attribute (.Name xj _) x _] (.Name xi _) _ => decide (g.flds[f]? = some x) && decide (N[i]? = some xi) && visB sc xi && plain xi && decide (N[j]? = some xj) && visB sc xj && plain xj
    | _ => false
  | .dsetF f o k e, st => match st with
    | .Assign [.Subscript (.Attribute po x _) pk _] pe _ => decide (g.flds[f]? = some x) && notSuper po && noComp pe && simpE k && ckE g N o sc po && ckE g N k sc pk && ckE g N e sc pe
    | _ => false
  | .appF f o e, st => match st with
    | .Expr (.Call (.Attribute (.Attribute po x _) a ap) [pe] [] cp) _ => decide (a = "append") && decide (g.flds[f]? = some x) && notSuper po && noStar pe && (ap.endLine == cp.line) && simpT e && ckE g N o sc po && ckE g N e sc pe
    | _ => false
  | .raise c, st => match st with
    | .Raise (some (.Call (.Name x _) [.Constant (.str _) _ _] [] _)) none _ => decide (g.exs c = some x) && glB sc x
    | _ => false
  | _, _ => false
def ckB (g : Sg) (N : List Str) (sc : PySem.Scope) : CSs → List PySem.Stmt → Bool
  | .nil, st => st.isEmpty
  | .cons s b, st => if isShr s then ckB g N sc b st else match st with
    | p :: ps => ckS g N sc s p && ckB g N sc b ps
    | [] => false
end
section
variable {X : L2.Cx} {T : Tb} {G : Prg} {Φ : Phi} {g : Sg} {sc : PySem.Scope} {N : List Str} {exc : Nat → Value} {WX : WXn}
variable (hfin : ∀ f vs S v m S', Φ f vs S = .ok v m S' → m.fin = true)
include hfin
theorem sndAs : ∀ (es : CEs) (X : L2.Cx) (WX : WXn) (sc : PySem.Scope) (_ : Ctx X T G Φ g sc N exc WX) (e : List PySem.Expr), simpA es = true → ckA g N es sc e = true → PAs X T WX e (evA G Φ es)
  | .nil, X, WX, sc, C, e, _, h => by
    simp only [ckA] at h
    split at h
    · exact as_nil
    · cases h
  | .cons a r, X, WX, sc, C, e, hs, h => by
    simp only [simpA, Bool.and_eq_true] at hs
    simp only [ckA] at h
    split at h
    · simp only [Bool.and_eq_true] at h
      have := sndE hfin a X WX sc C _ h.1.2
      rw [hs.1] at this
      exact as_cons h.1.1 this (sndAs r X WX sc C _ hs.2 h.2)
    · cases h
theorem sndTp {X : L2.Cx} {WX : WXn} {sc : PySem.Scope} (C : Ctx X T G Φ g sc N exc WX) {e : CE} {pe : PySem.Expr} (hs : simpT e = true) (h : ckE g N e sc pe = true) : PEe X T WX pe true (evE G Φ e) := by
  by_cases ht : ∃ es, e = .tup es
  · obtain ⟨es, rfl⟩ := ht
    simp only [simpT] at hs
    simp only [ckE] at h
    split at h
    · simp only [Bool.and_eq_true, decide_eq_true_eq] at h
      exact e_tupS (sndAs hfin es X WX sc C _ hs h.2) h.1
    · cases h
  · have hs' : simpE e = true := by
      cases e <;> first | exact hs | exact absurd ⟨_, rfl⟩ ht
    have := sndE hfin e X WX sc C _ h
    rw [hs'] at this
    exact this
mutual
theorem sndS (C : SCtx X T G Φ g sc N exc WX) : ∀ (s : CS) (st : PySem.Stmt), ckS g N sc s st = true → PSe X T WX st (exS G Φ s)
  | .asg t e, st, h => by
    simp only [ckS] at h
    split at h
    · simp only [Bool.and_eq_true] at h
      exact s_asgT C.toCtx h.1.1 h.1.2 (sndE hfin e X WX sc C.toCtx _ h.2)
    · split at h
      · rename_i i elt t it
        simp only [Bool.and_eq_true, names2, decide_eq_true_eq] at h
        obtain ⟨⟨⟨⟨⟨⟨⟨⟨h1, h2⟩, h3⟩, h4⟩, h5⟩, h6⟩, h7⟩, h8⟩, h9⟩ := h
        obtain rfl := List.isEmpty_iff.mp h9
        exact s_asgLc C h1 h2 (sndI hfin true it X WX sc C.toCtx _ _ h3) h4 h5 h6 (fun s H D cl fp => sndE hfin elt _ WXF _ (C.toCtx.blk s H D cl fp) _ h7) h8
      · rename_i i elt t it c
        simp only [Bool.and_eq_true, names2, decide_eq_true_eq] at h
        obtain ⟨⟨⟨⟨⟨⟨⟨⟨h1, h2⟩, h3⟩, h4⟩, h5⟩, h6⟩, h7⟩, h8⟩, h9⟩ := h
        split at h9
        · exact s_asgLcf C h1 h2 (sndI hfin true it X WX sc C.toCtx _ _ h3) h4 h5 h6 (fun s H D cl fp => sndE hfin elt _ WXF _ (C.toCtx.blk s H D cl fp) _ h7) (fun s H D cl fp => sndC hfin c _ WXF _ (C.toCtx.blk s H D cl fp) _ h9) h8
        · cases h9
      · cases h
    · split at h
      · simp only [Bool.and_eq_true, decide_eq_true_eq] at h
        obtain ⟨⟨⟨h1, h2⟩, h3⟩, h4⟩ := h
        exact s_asg C.toCtx h1 h2 h3 (sndE hfin e X WX sc C.toCtx _ h4)
      · cases h
    · cases h
  | .app i e, st, h => by
    simp only [ckS] at h
    split at h
    · simp only [Bool.and_eq_true, decide_eq_true_eq] at h
      obtain ⟨⟨⟨⟨⟨⟨rfl, h1⟩, h2⟩, h3⟩, h4⟩, h5⟩, h6⟩ := h
      exact s_app C.toCtx h1 h2 h3 h4 h5 (sndE hfin e X WX sc C.toCtx _ h6)
    · cases h
  | .ext i e, st, h => by
    simp only [ckS] at h
    split at h
    · simp only [Bool.and_eq_true, decide_eq_true_eq] at h
      obtain ⟨⟨⟨⟨⟨⟨rfl, h1⟩, h2⟩, h3⟩, h4⟩, h5⟩, h6⟩ := h
      exact s_ext C.toCtx h1 h2 h3 h4 h5 (sndE hfin e X WX sc C.toCtx _ h6)
    · cases h
  | .dset i k e, st, h => by
    simp only [ckS] at h
    split at h
    · simp only [Bool.and_eq_true, decide_eq_true_eq] at h
      obtain ⟨⟨⟨⟨⟨h1, h2⟩, h3⟩, h4⟩, h5⟩, h6⟩ := h
      exact s_dset C.toCtx h1 h2 h3 h4 (sndE hfin e X WX sc C.toCtx _ h5) (sndE hfin k X WX sc C.toCtx _ h6)
    · cases h
  | .expr e, st, h => by
    simp only [ckS] at h
    split at h
    · simp only [Bool.and_eq_true] at h
      exact s_expr h.1 (sndE hfin e X WX sc C.toCtx _ h.2)
    · cases h
  | .ret e, st, h => by
    simp only [ckS] at h
    split at h
    · exact s_ret (sndE hfin e X WX sc C.toCtx _ h)
    · cases h
  | .retn, st, h => by
    simp only [ckS] at h
    split at h
    · exact s_retn
    · cases h
  | .retv i, st, h => by
    simp only [ckS] at h
    split at h
    · simp only [Bool.and_eq_true, decide_eq_true_eq] at h
      exact s_retv C.toCtx h.1.1 h.1.2 h.2
    · cases h
  | .ife c a b, st, h => by
    simp only [ckS] at h
    split at h
    · simp only [Bool.and_eq_true] at h
      exact s_ife (sndC hfin c X WX sc C.toCtx _ h.1.1) (sndB C a _ h.1.2) (sndB C b _ h.2)
    · cases h
  | .whl c b, st, h => by
    simp only [ckS] at h
    split at h
    · simp only [Bool.and_eq_true] at h
      exact s_whl C (sndC hfin c X WX sc C.toCtx _ h.1) (sndB C b _ h.2)
    · cases h
  | .for_ t it b, st, h => by
    simp only [ckS] at h
    split at h
    · simp only [Bool.and_eq_true] at h
      exact s_for C h.1.1.1 h.1.1.2 (sndI hfin false it X WX sc C.toCtx _ _ h.1.2) (sndB C b _ h.2)
    · cases h
  | .brk, st, h => by
    simp only [ckS] at h
    split at h
    · exact s_brk
    · cases h
  | .cnt, st, h => by
    simp only [ckS] at h
    split at h
    · exact s_cnt
    · cases h
  | .pass, st, h => by
    simp only [ckS] at h
    split at h
    · exact s_pass
    · cases h
  | .own _ _, st, h => by simp [ckS] at h
  | .par _ _ _ _, st, h => by simp [ckS] at h
  | .par3 _ _ _ _ _ _, st, h => by simp [ckS] at h
  | .dsetB _ _ _, st, h => by simp [ckS] at h
  | .lsetF _ _ _ _, st, h => by simp [ckS] at h
  | .appB _ _, st, h => by simp [ckS] at h
  | .extB _ _, st, h => by simp [ckS] at h
  | .fset f o e, st, h => by
    simp only [ckS] at h
    split at h
    · simp only [Bool.and_eq_true, decide_eq_true_eq] at h
      exact s_fset C.toCtx h.1.1.1 h.1.1.2 (sndE hfin o X WX sc C.toCtx _ h.1.2) (sndE hfin e X WX sc C.toCtx _ h.2)
    · cases h
  | .fmov f j i, st, h => by
    simp only [ckS] at h
    split at h
    · simp only [Bool.and_eq_true, decide_eq_true_eq] at h
      obtain ⟨⟨⟨⟨⟨⟨h1, h2⟩, h3⟩, h4⟩, h5⟩, h6⟩, h7⟩ := h
      exact s_fmov C.toCtx h1 h2 h3 h4 h5 h6 h7
    · cases h
  | .dsetF f o k e, st, h => by
    simp only [ckS] at h
    split at h
    · simp only [Bool.and_eq_true, decide_eq_true_eq] at h
      obtain ⟨⟨⟨⟨⟨⟨h1, h2⟩, h3⟩, h4⟩, h5⟩, h6⟩, h7⟩ := h
      exact s_dsetF C.toCtx h1 h2 h3 h4 (sndE hfin o X WX sc C.toCtx _ h5) (sndE hfin k X WX sc C.toCtx _ h6) (sndE hfin e X WX sc C.toCtx _ h7)
    · cases h
  | .appF f o e, st, h => by
    simp only [ckS] at h
    split at h
    · simp only [Bool.and_eq_true, decide_eq_true_eq] at h
      obtain ⟨⟨⟨⟨⟨⟨⟨rfl, h1⟩, h2⟩, h3⟩, h4⟩, h5⟩, h6⟩, h7⟩ := h
      exact s_appF C.toCtx h1 h2 h3 h4 h5 (sndE hfin o X WX sc C.toCtx _ h6) (sndTp hfin C.toCtx h5 h7)
    · cases h
  | .raise c, st, h => by
    simp only [ckS] at h
    split at h
    · simp only [Bool.and_eq_true, decide_eq_true_eq] at h
      exact s_raise C.toCtx h.1 h.2
    · cases h
  | .try_ _ _ _, st, h => by simp [ckS] at h
  | .shr _, st, h => by simp [ckS] at h
  | .kil _, st, h => by simp [ckS] at h
  | .bx _, st, h => by simp [ckS] at h
theorem sndB (C : SCtx X T G Φ g sc N exc WX) : ∀ (b : CSs) (st : List PySem.Stmt), ckB g N sc b st = true → PBe X T WX st (exB G Φ b)
  | .nil, st, h => by
    simp only [ckB] at h
    obtain rfl := List.isEmpty_iff.mp h
    exact b_nil
  | .cons s b, st, h => by
    simp only [ckB] at h
    split at h
    · rename_i hs
      cases s with
      | shr i => exact b_ghost (fun K D σ H h => g_shr K D σ H h) (sndB C b _ h)
      | kil i => exact b_ghost (fun K D σ H h => g_kil K D σ H h) (sndB C b _ h)
      | _ => cases hs
    · split at h
      · simp only [Bool.and_eq_true] at h
        exact b_cons (sndS C s _ h.1) (sndB C b _ h.2)
      · cases h
end
end
end SR

set_option linter.unusedVariables false
set_option maxRecDepth 100000
/-! Defs, and the end. -/
namespace SR
open PySem (Addr Str Value PyData Heap)
open L2 (V Hp HO Key upd Rd SqL SqT)
section
variable {P : PySem.Program} {w : PySem.World} {K : PySem.W.Frag} {mg : Str → Option Value} {base : Heap} {T : Tb} {G : Prg} {D : Nat → Option CD} {g : Sg} {exc : Nat → Value}
theorem call_fin {n : Nat} : ∀ f vs S v m S', callN G D n f vs S = .ok v m S' → m.fin = true := by
  intro f vs S v m S' h
  cases n with
  | zero => simp [callN] at h
  | succ n =>
    simp only [callN] at h
    split at h
    · unfold runD at h
      split at h
      · generalize exB G (callN G D n) _ _ S = R at h
        cases R with
        | nx r S1 => cases h; rfl
        | ret v1 m1 S1 =>
          simp only [endR] at h
          split at h
          · cases h; assumption
          · cases h
        | exc _ _ _ => cases h
        | brk _ _ => cases h
        | cnt _ _ => cases h
        | bad => cases h
      · cases h
    · cases h
/-- a def of the text -/
structure IsFn (K : PySem.W.Frag) (D : Nat → Option CD) (g : Sg) (i : Nat) (f : Addr) (fd : PySem.FuncData) (ps : List Str) : Prop where
  bd : L2.Binds K fd ps []
  ex : ∃ (x qual : Str) (st : PySem.Stmt) (N : List Str) (d : CD), L2.Fun K x qual st f fd ∧ L2.FnScope N ps (L2.defScope st) ∧ D i = some d ∧ d.params = ps.length ∧ d.slots = N.length ∧ ckB g N (L2.defScope st) d.body (L2.defBody st) = true
/-- one that stands at the top -/
structure IsDef (K : PySem.W.Frag) (mg : Str → Option Value) (D : Nat → Option CD) (g : Sg) (i : Nat) (x : Str) (f : Addr) (fd : PySem.FuncData) (ps : List Str) : Prop where
  fn : IsFn K D g i f fd ps
  dbg : (x == ("__debug__" : Str)) = false
  mgx : mg x = some (.ref f)
  keep : PySem.W.keepIn K (.ref f) = true
/-- a method -/
structure IsMeth (K : PySem.W.Frag) (T : Tb) (D : Nat → Option CD) (g : Sg) (c i : Nat) (x : Str) : Prop where
  nf : x ∉ T.fns
  ex : ∃ f fd ps, IsFn K D g i f fd ps ∧ L2.Meth K (T.cls c) x f
/-- a class, made anew -/
structure IsMk (K : PySem.W.Frag) (mg : Str → Option Value) (T : Tb) (D : Nat → Option CD) (g : Sg) (c i : Nat) (x : Str) : Prop where
  ok : T.ok c
  dbg : (x == ("__debug__" : Str)) = false
  ex : ∃ f fd ps, IsFn K D g i f fd ps ∧ mg x = some (.ref (T.cls c)) ∧ L2.Mk K (T.cls c) f
/-- a refusal's class -/
structure IsExc (K : PySem.W.Frag) (mg : Str → Option Value) (v : Value) (x : Str) : Prop where
  dbg : (x == ("__debug__" : Str)) = false
  ex : ∃ C, v = .ref C ∧ mg x = some (.ref C) ∧ PySem.W.keepIn K (.ref C) = true ∧
    PySem.W.excIn K C [.type "ValueError", .type "Exception", .type "BaseException", .type "object"] "ValueError.__new__" = true ∧ PySem.W.subIn K (.ref C) (.type "BaseException") = some true ∧ PySem.W.typeIn K (.ref C) = some (.type "type")
/-- how deep a call may stand -/
def lev : Nat → Nat
  | 0 => 0
  | n + 1 => lev n + 1 + 1
theorem phi_len {n i : Nat} {f : Addr} {fd : PySem.FuncData} {ps : List Str} (I : IsFn K D g i f fd ps) : ∀ vs S, callN G D n i vs S ≠ .bad → vs.length = ps.length := fun vs S h => by
  obtain ⟨_, _, _, _, d, _, _, hD, hp, _, _⟩ := I.ex
  cases n with
  | zero => exact absurd rfl h
  | succ n =>
    simp only [callN, hD, runD] at h
    split at h
    · rename_i e
      rw [e, hp]
    · exact absurd rfl h
theorem sls_un {W : Wd} {H : Hp} : ∀ {n : Nat}, SlsR K W H (List.replicate n .un) (List.replicate n none) []
  | 0 => ⟨rfl, rfl⟩
  | n + 1 => ⟨none, List.replicate n none, [], [], rfl, rfl, rfl, sls_un⟩
theorem SlsR.app {W : Wd} {H : Hp} : ∀ {r r' : List Sl} {os os' : List (Option V)} {A A' : List Addr}, SlsR K W H r os A → SlsR K W H r' os' A' → SlsR K W H (r ++ r') (os ++ os') (A ++ A')
  | [], _, _, _, _, _, ⟨e1, e2⟩, h => by subst e1 e2; exact h
  | _ :: _, _, _, _, _, _, ⟨o, t, B, C, e1, e2, h1, h2⟩, h => by
    subst e1 e2
    exact ⟨o, _, B, _, rfl, by rw [List.append_assoc], h1, h2.app h⟩
theorem SlsR.shared {W : Wd} {H : Hp} {B : List Addr} : ∀ {r : List Sl} {os : List (Option V)} {A : List Addr}, SlsR K W H r os A → (∀ a ∈ A, a ∈ B) → SlsR K (W.addL B) H (r.map share) os []
  | [], _, _, ⟨e1, _⟩, _ => ⟨e1, rfl⟩
  | s :: _, _, _, ⟨o, t, B1, C, e1, e2, h1, h2⟩, h => by
    subst e1 e2
    refine ⟨o, t, [], [], rfl, rfl, ?_, h2.shared fun a ha => h a (List.mem_append_right _ ha)⟩
    cases s with
    | un => exact rfl
    | sh v =>
      obtain ⟨_, x, e, r⟩ := h1
      exact ⟨rfl, x, e, r.grow Grow.addL _ _⟩
    | own v =>
      obtain ⟨a, rfl, e, ow⟩ := h1
      exact ⟨rfl, _, e, ow.shared (h a (by simp))⟩
theorem fns_ok (hcon : ∀ (i : Nat) (x : Str) (v : PV) (b : Bool), g.con i = some x → G.consts[i]? = some (v, b) → (x == ("__debug__" : Str)) = false ∧ ∃ u z, mg x = some u ∧ L2.RelV z u ∧ ConR K v b z)
    (hblt : ∀ x ∈ g.blt, mg x = none) (htab : ∀ (i : Nat) (x : Str) (kvs : List (Int × PV)), g.tab i = some x → G.tabs[i]? = some kvs → (x == ("__debug__" : Str)) = false ∧ ∃ d, mg x = some (.ref d) ∧ TabR K d kvs) (hdef : ∀ (i : Nat) (x : Str), g.fns i = some x → ∃ f fd ps, IsDef K mg D g i x f fd ps)
    (hcl : ∀ c, T.ok c → L2.Cls K (T.cls c) ∧ ∀ x ∈ T.fns, L2.NoAttr K (T.cls c) x) (hme : ∀ (c m i : Nat) (x : Str), T.ok c → g.mts m = some x → G.meth c m = some i → IsMeth K T D g c i x) (hnw : ∀ (c : Nat) (x : Str), g.cls c = some x → ∃ i, G.init c = some i ∧ IsMk K mg T D g c i x)
    (hfl : ∀ (f : Nat) (x : Str), g.flds[f]? = some x → T.fns[f]? = some x) (hrz : ∀ (c : Nat) (x : Str), g.exs c = some x → IsExc K mg (exc c) x) :
    ∀ (n i : Nat) (f : Addr) (fd : PySem.FuncData) (ps : List Str), IsFn K D g i f fd ps → L2.FnOk P w K mg base (L2.CX P w) (lev n) f fd ps (spF K T exc (callN G D n) i ps.length)
  | 0, i, f, fd, ps, I => ⟨fun vs H Q E h => h.1, fun A outer s H args us vs Q E _ _ _ _ h => by
      obtain ⟨_, W, S, A', F, pvs, _, _, q⟩ := h
      simp only [callN] at q⟩
  | n + 1, i, f, fd, ps, I => by
    obtain ⟨x, qual, st, N, d, Fu, Sc, hD, hp, hs, hck⟩ := I.ex
    refine Fu.okX Sc (fun vs H Q E h => h.1) fun cdv A outer s H vs Q E hr h => ?_
    obtain ⟨hl, W, S, A', F, pvs, sl, ok, q⟩ := h
    have ih := fns_ok hcon hblt htab hdef hcl hme hnw hfl hrz n
    have hr0 := hr.mono (Nat.le_succ (lev n))
    have C : SCtx (L2.cxOf (L2.CX P w) P w K mg base N qual (L2.defScope st) f cdv A outer s H E) T G (callN G D n) g (L2.defScope st) N exc (fun c _ H => E (exc c) none H) := {
      calm := rfl
      hN := rfl
      nd := Sc.nd
      vis := vis_sc rfl
      loc := loc_sc rfl
      gl := fun x h => by
        have h' : (L2.defScope st).names.lookup x = some .globalImplicit := by
          unfold glB at h
          split at h
          · assumption
          · cases h
        exact h'
      cf := fun x h => h
      fnl := fun x _ => .inl rfl
      units := by have := hr.un; show (A.deeper _).units + 80 < _; omega
      tk := L2.Takes.imp (L2.takes_of rfl rfl rfl rfl) fun c d σ H h => by
        obtain ⟨c, rfl, rfl, h⟩ := h
        exact h
      con := hcon
      blt := hblt
      tab := htab
      fn := fun i x hx => by
        obtain ⟨f, fd, ps, I⟩ := hdef i x hx
        exact ⟨I.dbg, _, f, fd, ps, hr0, ih i f fd ps I.fn, phi_len I.fn, I.mgx, I.keep, I.fn.bd⟩
      cl := hcl
      me := fun c m i x hc hx hi => by
        obtain ⟨nf, f, fd, ps, I, hm⟩ := hme c m i x hc hx hi
        exact ⟨nf, _, f, fd, ps, hr0, ih i f fd ps I, phi_len I, hm, I.bd⟩
      nw := fun c x hx => by
        obtain ⟨i, hi, hk, hd, f, fd, ps, I, hm, M⟩ := hnw c x hx
        exact ⟨i, hi, hk, hd, _, f, fd, ps, hr, ih i f fd ps I, phi_len I, hm, M, I.bd⟩
      fl := hfl
      rz := fun c x hx => ⟨(hrz c x hx).dbg, (hrz c x hx).ex⟩
      po := L2.passes_of rfl
      hsc := rfl
      kind := Sc.kind }
    refine ⟨_, sndB (WX := fun c _ H => E (exc c) none H) call_fin C d.body _ hck, ?_⟩
    have hpl : pvs.length = d.params := by rw [← sl.len, List.length_map, hl, hp]
    have e : L2.start N vs = vs.map some ++ List.replicate (d.slots - d.params) none := by
      unfold L2.start
      rw [hs, hl, hp]
    -- what is handed in: shared, or its own
    obtain ⟨W1, A1, F1, gr, sl1, ok1, sub⟩ : ∃ W1 A1 F1, Grow W H W1 H ∧ SlsR K W1 H ((if d.own then pvs else pvs.map share) ++ List.replicate (d.slots - d.params) .un) (L2.start N vs) A1 ∧ Ok K T W1 H S (A1 ++ F1) ∧ F1 = F := by
      rw [e]
      cases ho : d.own with
      | true =>
        rw [if_pos rfl]
        refine ⟨W, A', F, Grow.refl _ _, ?_, ok, rfl⟩
        have := sl.app (sls_un (K := K) (W := W) (H := H) (n := d.slots - d.params))
        rwa [List.append_nil] at this
      | false =>
        rw [if_neg (by simp)]
        refine ⟨W.addL A', [], F, Grow.addL, ?_, ok.addL, rfl⟩
        have := (sl.shared fun a ha => ha).app (sls_un (K := K) (W := W.addL A') (H := H) (n := d.slots - d.params))
        rwa [List.append_nil] at this
    subst sub
    refine ⟨W1, S, (if d.own then pvs else pvs.map share) ++ List.replicate (d.slots - d.params) Sl.un, A1, F1, sl1, ok1, ?_⟩
    simp only [callN, hD, runD] at q
    rw [if_pos hpl] at q
    cases c : exB G (callN G D n) d.body ((if d.own then pvs else pvs.map share) ++ List.replicate (d.slots - d.params) .un) S with
    | bad => rw [c] at q; exact q.elim
    | brk _ _ => rw [c] at q; exact q.elim
    | cnt _ _ => rw [c] at q; exact q.elim
    | nx r S' =>
      rw [c] at q
      exact fun W' H' σ' A' g' f' sl' ok' => q.2 W' H' .non (gr.trans g') f' (by show RepV _ _ _ _ _; simp only [RepV]) ok'.drop
    | exc c1 r S' =>
      rw [c] at q
      exact fun W' H' σ' A' g' f' sl' ok' => q W' H' (gr.trans g') f' ok'.drop
    | ret v m S' =>
      rw [c] at q
      simp only [endR] at q
      cases hm : m.fin with
      | false => rw [hm] at q; exact q.elim
      | true =>
        rw [hm] at q
        exact ⟨hm, fun W' H' x g' f' hx ok' => q.2 W' H' x (gr.trans g') f' hx ok'⟩
theorem look_mem {a : Addr} {o : PySem.Obj} : ∀ {K : PySem.W.Frag}, K.lookup a = some o → (a, o) ∈ K
  | [], h => by cases h
  | (b, p) :: r, h => by
    rw [List.lookup_cons] at h
    cases c : a == b with
    | true =>
      rw [c] at h
      obtain rfl := eq_of_beq c
      cases h
      exact List.mem_cons_self
    | false =>
      rw [c] at h
      exact List.mem_cons_of_mem _ (look_mem h)
/-- no list stands in what the top wrote -/
def noLst (K : PySem.W.Frag) : Bool := K.all fun p => !(p.2.cls == .type "list")
theorem rd_of {K : PySem.W.Frag} {H : Hp} {a : Addr} {xs : List V} (n : noLst K = true) (h : SqL K H a xs) : Rd H a (.lst xs) := by
  rcases h with h | ⟨o, its, n', e, c, _⟩
  · exact h
  · exfalso
    have := (List.all_eq_true.mp n) _ (look_mem e)
    simp only at this
    rw [c] at this
    simp at this
/-! ### what the top wrote, by a look at it -/
mutual
def wrB (K : PySem.W.Frag) : Nat → PV → Value → Bool
  | 0, _, _ => false
  | n + 1, .int i, u => match u with
    | .int j _ => decide (i = j)
    | _ => false
  | n + 1, .bl b, u => match u with
    | .bool c => b == c
    | _ => false
  | n + 1, .str x, u => match u with
    | .str y _ => decide (y = txt x) && x.all fun c => decide (c < 128)
    | _ => false
  | n + 1, .tup xs, u => match u with
    | .ref a => (pathOf xs).isNone && (match K.lookup a with
      | some ⟨.type "tuple", _, .seq its _, _⟩ => decide (its.size ≤ 1000) && wrBs K n xs its.toList
      | _ => false)
    | _ => false
  | _, _, _ => false
def wrBs (K : PySem.W.Frag) : Nat → List PV → List Value → Bool
  | 0, _, _ => false
  | n + 1, [], us => us.isEmpty
  | n + 1, x :: xs, us => match us with
    | u :: us => wrB K n x u && wrBs K n xs us
    | [] => false
end
mutual
theorem wr_ok {K : PySem.W.Frag} : ∀ (n : Nat) (v : PV) (u : Value), wrB K n v u = true → ∃ z, L2.RelV z u ∧ ∀ W H, RepV K W H v z
  | 0, _, _, h => by simp [wrB] at h
  | n + 1, .int i, u, h => by
    simp only [wrB] at h
    split at h
    · rename_i j t
      rw [of_decide_eq_true h]
      exact ⟨.int j, ⟨t, rfl⟩, fun W H => by simp only [RepV]⟩
    · cases h
  | n + 1, .bl b, u, h => by
    simp only [wrB] at h
    split at h
    · rename_i c
      obtain rfl := eq_of_beq h
      exact ⟨.bl b, rfl, fun W H => by simp only [RepV]⟩
    · cases h
  | n + 1, .str x, u, h => by
    simp only [wrB] at h
    split at h
    · rename_i y t
      simp only [Bool.and_eq_true, decide_eq_true_eq, List.all_eq_true] at h
      obtain ⟨rfl, h⟩ := h
      exact ⟨.str (txt x), ⟨t, rfl⟩, fun W H => by simp only [RepV]; exact ⟨trivial, h⟩⟩
    · cases h
  | n + 1, .tup xs, u, h => by
    simp only [wrB] at h
    split at h
    · rename_i a
      rw [Bool.and_eq_true] at h
      obtain ⟨hp, h⟩ := h
      split at h
      · rename_i d its ep sl hl
        simp only [Bool.and_eq_true, decide_eq_true_eq] at h
        obtain ⟨vs, hv, hr⟩ := wrs_ok n xs its.toList h.2
        refine ⟨.ref a, rfl, fun W H => ?_⟩
        simp only [RepV]
        refine ⟨a, vs, rfl, .inr ⟨⟨_, its, ep, hl, rfl, rfl, Nat.le_of_lt (L2.small1000 h.1), hv⟩, ?_⟩, hr W H⟩
        exact Option.isNone_iff_eq_none.mp hp
      · cases h
    · cases h
  | n + 1, .non, u, h => by simp [wrB] at h
  | n + 1, .lst _, u, h => by simp [wrB] at h
  | n + 1, .dct _, u, h => by simp [wrB] at h
  | n + 1, .obj _, u, h => by simp [wrB] at h
theorem wrs_ok {K : PySem.W.Frag} : ∀ (n : Nat) (v : List PV) (u : List Value), wrBs K n v u = true → ∃ z, L2.Vals z u ∧ ∀ W H, RepVs K W H v z
  | 0, _, _, h => by simp [wrBs] at h
  | n + 1, [], us, h => by
    simp only [wrBs] at h
    obtain rfl := List.isEmpty_iff.mp h
    exact ⟨[], .nil, fun W H => by simp only [RepVs]⟩
  | n + 1, x :: xs, us, h => by
    simp only [wrBs] at h
    split at h
    · rw [Bool.and_eq_true] at h
      obtain ⟨z, h1, h2⟩ := wr_ok n x _ h.1
      obtain ⟨zs, h3, h4⟩ := wrs_ok n xs _ h.2
      exact ⟨z :: zs, .cons h1 h3, fun W H => by simp only [RepVs]; exact ⟨z, zs, rfl, h2 W H, h4 W H⟩⟩
    · cases h
end
def tabB (K : PySem.W.Frag) (d : Addr) (kvs : List (Int × PV)) : Bool := match K.lookup d with
  | some ⟨.type "dict", none, .dict es _, sl⟩ => sl.isEmpty && (es.toList.all fun e => match e.key with
      | .int k _ => decide (e.hash = PySem.hashInt k)
      | _ => false) && kvs.all fun p => match PySem.findBy PySem.Value.isInt es p.1 with
      | some u => wrB K 20 p.2 u
      | none => false
  | _ => false
theorem look_in {kvs : List (Int × PV)} {k : Int} {v : PV} : kvs.lookup k = some v → (k, v) ∈ kvs := by
  induction kvs with
  | nil => intro h; cases h
  | cons p r ih =>
    obtain ⟨a, b⟩ := p
    intro h
    rw [List.lookup_cons] at h
    cases c : k == a with
    | true =>
      rw [c] at h
      obtain rfl := eq_of_beq c
      cases h
      exact List.mem_cons_self
    | false =>
      rw [c] at h
      exact List.mem_cons_of_mem _ (ih h)
theorem tab_ok {K : PySem.W.Frag} {d : Addr} {kvs : List (Int × PV)} (h : tabB K d kvs = true) : TabR K d kvs := by
  unfold tabB at h
  split at h
  · rename_i es n sl hl
    rw [Bool.and_eq_true, Bool.and_eq_true, List.all_eq_true, List.all_eq_true] at h
    obtain ⟨⟨h0, h1⟩, h2⟩ := h
    obtain rfl := Array.isEmpty_iff.mp h0
    have h := And.intro h1 h2
    refine ⟨es, n, hl, fun e he => ?_, fun k v hv => ?_⟩
    · have := h.1 e (Array.mem_toList_iff.mpr he)
      split at this
      · rename_i k t hk
        exact ⟨k, t, hk, of_decide_eq_true this⟩
      · cases this
    · have := h.2 (k, v) (look_in hv)
      split at this
      · rename_i u hu
        obtain ⟨z, h1, h2⟩ := wr_ok 20 v u this
        exact ⟨u, z, hu, h1, h2⟩
      · cases this
  · cases h
theorem con_ok {K : PySem.W.Frag} {v : PV} {u : Value} (h : wrB K 20 v u = true) : ∃ z, L2.RelV z u ∧ ConR K v true z := wr_ok 20 v u h
/-- what law promises -/
def spLaw (K : PySem.W.Frag) (n : Nat) : L2.Sp := fun vs H Q _ => ∃ (a : Addr) (ns : List Int), vs = [.ref a] ∧ SqL K H a (ns.map V.int) ∧ ns.length ≤ n ∧ L2.Only H ∧ ∀ H', Q (.bl true) H'
theorem sp_law {Φ : Phi} {i m : Nat} (nl : noLst K = true) (h : ∀ ns : List Int, ns.length ≤ m → ∃ S', Φ i [.sh (.lst (ns.map .int))] [] = .ok (.bl true) .sh S') (vs : List V) (H : Hp) (Q : L2.VK) (E : L2.XK) (q : spLaw K m vs H Q E) : spF K T exc Φ i 1 vs H Q E := by
  obtain ⟨a, ns, rfl, hS, hl, hO, q⟩ := q
  obtain ⟨S', e⟩ := h ns hl
  have hR := rd_of nl hS
  have hsa : ∃ o, H a = some o := by
    rcases hR with h | ⟨o, h⟩
    · exact ⟨_, h⟩
    · exact ⟨_, h⟩
  refine ⟨rfl, ⟨[], fun b => ∃ o, H b = some o⟩, [], [], [], [.sh (.lst (ns.map .int))], ⟨_, [], [], [], rfl, rfl, ⟨rfl, .ref a, rfl, ?_⟩, rfl, rfl⟩, ⟨⟨[], ⟨rfl, rfl⟩, by simp, by simp⟩, fun b hb => hb⟩, ?_⟩
  · simp only [RepV]
    exact ⟨a, _, rfl, ⟨hsa, hR⟩, reps_ints ns⟩
  · rw [e]
    refine ⟨rfl, fun W' H' x g' f' hx ok' => ?_⟩
    have hx' : RepV K W' H' (.bl true) x := hx
    simp only [RepV] at hx'
    subst hx'
    exact q H'
end
open PySem PySem.Spec PyProof.Rows in
/-- the end -/
theorem walk_sr {l : PySem.W.OpenLaw} {m n : Nat} {q : PySem.Program} {loose : List Str} {XP : (Str → Option Value) → Heap → Prop} {YP : PySem.World → Heap → Prop} {d : DefRec} {K : Params → PySem.W.Frag} {x : Str} (hn : l.most = some m) (hm : m ≤ 1000) (hdf : d.params.defaults = []) (hr : L2.Room n callerA)
    (hY : ∀ (w : PySem.World) (h : Heap), YP w h → (K w.params).In h)
    (F : ∀ (w : PySem.World) (mg : Str → Option Value) (fa : Addr) (h : Heap), (K w.params).In h → h.Ns PySem.mainGlobals mg → mg d.name = some (.ref fa) →
      ∃ fd : PySem.FuncData, (∀ (s : PySem.Shared) (u : Value), PySem.BindsTo s fd ⟨[u], []⟩ [(x, u)]) ∧ ∀ base : Heap, (K w.params).In base → base.Ns PySem.mainGlobals mg → L2.FnOk l.prog w (K w.params) mg base (L2.CX l.prog w) n fa fd [x] (spLaw (K w.params) m)) :
    PySem.W.WalkO q loose XP YP l.row.toRowW d [] (fun f vs => PySem.call f vs) :=
  L2.walk_of (n := m) (k := n) (x := x) (CX := fun w => L2.CX l.prog w) (sp := fun w => spLaw (K w.params) m) hn (Nat.le_trans hm (Nat.le_of_lt (L2.small1000 (Nat.le_refl _)))) hdf hr hY F (fun _ _ a ns hl hO hS => ⟨a, ns, rfl, hS, hl, hO, fun _ => rfl⟩) fun w H s e s' z => by
    obtain ⟨_, _, _, _, _, _, _, _, _, _, _, _, z⟩ := z
    exact z.elim
end SR

set_option linter.unusedVariables false
set_option maxRecDepth 100000
/-! The evaluator step by step: its parts as words that stand by themselves, so that simp follows it from the left. -/
namespace SR
section
variable {G : Prg} {Φ : Phi} {r : Env} {S S1 : Sto} {m n : Md} {x y v : PV}
def slotR (S : Sto) : Option Sl → Res
  | some (.sh v) => .ok v .sh S
  | some (.own v) => .ok v .bor S
  | _ => .bad
@[simp] theorem slotR_sh : slotR S (some (.sh v)) = .ok v .sh S := rfl
@[simp] theorem slotR_own : slotR S (some (.own v)) = .ok v .bor S := rfl
@[simp] theorem evE_lit : evE G Φ (.lit v) r S = .ok v .sh S := by simp only [evE]
@[simp] theorem evE_var {i : Nat} : evE G Φ (.var i) r S = slotR S r[i]? := by simp only [evE]; rfl
def conR (S : Sto) : Option (PV × Bool) → Res
  | some (v, true) => .ok v .sh S
  | some (v, false) => .ok v .bor S
  | none => .bad
@[simp] theorem conR_t : conR S (some (v, true)) = .ok v .sh S := rfl
@[simp] theorem conR_f : conR S (some (v, false)) = .ok v .bor S := rfl
@[simp] theorem evE_glob {i : Nat} : evE G Φ (.glob i) r S = conR S G.consts[i]? := by simp only [evE]; rfl
/-- two parts, then f -/
def twoR2 (f : PV → Md → PV → Md → Sto → Res) (x : PV) (m : Md) : Res → Res
  | .ok y n S => f x m y n S
  | .exc c S => .exc c S
  | .bad => .bad
def twoR (f : PV → Md → PV → Md → Sto → Res) (s : Bool) (k : Sto → Res) : Res → Res
  | .ok x m S => if m.ok s then twoR2 f x m (k S) else .bad
  | .exc c S => .exc c S
  | .bad => .bad
variable {f : PV → Md → PV → Md → Sto → Res} {s : Bool} {k : Sto → Res}
@[simp] theorem twoR_ok : twoR f s k (.ok x m S) = if m.ok s then twoR2 f x m (k S) else .bad := rfl
@[simp] theorem twoR_exc {c : Nat} : twoR f s k (.exc c S) = .exc c S := rfl
@[simp] theorem twoR2_ok : twoR2 f x m (.ok y n S) = f x m y n S := rfl
@[simp] theorem twoR2_exc {c : Nat} : twoR2 f x m (.exc c S) = .exc c S := rfl
theorem two_eq {e : Res} : (e.bindK s fun x m S1 => (k S1).bind fun y n S2 => f x m y n S2) = twoR f s k e := by
  cases e with
  | ok x m S =>
    show (if m.ok s then (k S).bind _ else .bad) = if m.ok s then twoR2 f x m (k S) else .bad
    cases k S <;> rfl
  | _ => rfl
def binF (op : BOp) (x : PV) (m : Md) (y : PV) (n : Md) (S : Sto) : Res := ofO S (op2 op (m.isSh && n.isSh) (view S x) (view S y))
def cmpF (op : COp) (x : PV) (m : Md) (y : PV) (n : Md) (S : Sto) : Res := ofB S (cmp2 op m.isSh (view S x) (view S y))
def subF (x : PV) (m : Md) (y : PV) (n : Md) (S : Sto) : Res := if n.isSh then ofV S (item (view S x) y) else .bad
def slcLF (x : PV) (m : Md) (y : PV) (n : Md) (S : Sto) : Res := match y with
    | .int i => ofO S (slice (some i) none m.isSh (view S x))
    | _ => .bad
def slcUF (x : PV) (m : Md) (y : PV) (n : Md) (S : Sto) : Res := match y with
    | .int i => ofO S (slice none (some i) m.isSh (view S x))
    | _ => .bad
@[simp] theorem binF_eq {op : BOp} : binF op x m y n S = ofO S (op2 op (m.isSh && n.isSh) (view S x) (view S y)) := rfl
@[simp] theorem cmpF_eq {op : COp} : cmpF op x m y n S = ofB S (cmp2 op m.isSh (view S x) (view S y)) := rfl
@[simp] theorem subF_eq : subF x m y .sh S = ofV S (item (view S x) y) := rfl
@[simp] theorem slcLF_eq {i : Int} : slcLF x m (.int i) n S = ofO S (slice (some i) none m.isSh (view S x)) := rfl
@[simp] theorem slcUF_eq {i : Int} : slcUF x m (.int i) n S = ofO S (slice none (some i) m.isSh (view S x)) := rfl
@[simp] theorem evE_bin {op : BOp} {a b : CE} : evE G Φ (.bin op a b) r S = twoR (binF op) (simpE b) (evE G Φ b r) (evE G Φ a r S) := by simp only [evE]; exact two_eq (f := binF op)
@[simp] theorem evE_cmp {op : COp} {a b : CE} : evE G Φ (.cmp op a b) r S = twoR (cmpF op) (simpE b) (evE G Φ b r) (evE G Φ a r S) := by simp only [evE]; exact two_eq (f := cmpF op)
@[simp] theorem evE_sub {a b : CE} : evE G Φ (.sub a b) r S = twoR subF (simpE b) (evE G Φ b r) (evE G Φ a r S) := by simp only [evE]; exact two_eq (f := subF)
@[simp] theorem evE_slcL {a b : CE} : evE G Φ (.slcL a b) r S = twoR slcLF (simpE b) (evE G Φ b r) (evE G Φ a r S) := by simp only [evE]; exact two_eq (f := slcLF)
@[simp] theorem evE_slcU {a b : CE} : evE G Φ (.slcU a b) r S = twoR slcUF (simpE b) (evE G Φ b r) (evE G Φ a r S) := by simp only [evE]; exact two_eq (f := slcUF)
def tabR (kvs : List (Int × PV)) : Res → Res
  | .ok (.int j) _ S => ofV S (kvs.lookup j)
  | .exc c S => .exc c S
  | _ => .bad
@[simp] theorem tabR_ok {kvs : List (Int × PV)} {j : Int} : tabR kvs (.ok (.int j) m S) = ofV S (kvs.lookup j) := rfl
def tabO (k : Sto → Res) (S : Sto) : Option (List (Int × PV)) → Res
  | none => .bad
  | some kvs => tabR kvs (k S)
@[simp] theorem tabO_some {kvs : List (Int × PV)} : tabO k S (some kvs) = tabR kvs (k S) := rfl
@[simp] theorem evE_gsub {t : Nat} {e : CE} : evE G Φ (.gsub t e) r S = tabO (evE G Φ e r) S G.tabs[t]? := by
  simp only [evE]
  cases G.tabs[t]? with
  | none => rfl
  | some kvs =>
    show (evE G Φ e r S).bind _ = tabR kvs (evE G Φ e r S)
    cases evE G Φ e r S with
    | ok v m S => cases v <;> rfl
    | _ => rfl
def negR : Res → Res
  | .ok (.int i) _ S => .ok (.int (-i)) .sh S
  | .exc c S => .exc c S
  | _ => .bad
@[simp] theorem negR_ok {i : Int} : negR (.ok (.int i) m S) = .ok (.int (-i)) .sh S := rfl
@[simp] theorem evE_neg {a : CE} : evE G Φ (.neg a) r S = negR (evE G Φ a r S) := by
  simp only [evE]
  cases evE G Φ a r S with
  | ok v m S => cases v <;> rfl
  | _ => rfl
def andR (k : Sto → Res) : Res → Res
  | .ok (.bl true) _ S => k S
  | .ok (.bl false) _ S => .ok (.bl false) .sh S
  | .exc c S => .exc c S
  | _ => .bad
def orR (k : Sto → Res) : Res → Res
  | .ok (.bl true) _ S => .ok (.bl true) .sh S
  | .ok (.bl false) _ S => k S
  | .exc c S => .exc c S
  | _ => .bad
@[simp] theorem andR_t : andR k (.ok (.bl true) m S) = k S := rfl
@[simp] theorem andR_f : andR k (.ok (.bl false) m S) = .ok (.bl false) .sh S := rfl
@[simp] theorem orR_t : orR k (.ok (.bl true) m S) = .ok (.bl true) .sh S := rfl
@[simp] theorem orR_f : orR k (.ok (.bl false) m S) = k S := rfl
theorem andR_b {b : Bool} : andR k (.ok (.bl b) m S) = if b then k S else .ok (.bl false) .sh S := by cases b <;> rfl
theorem orR_b {b : Bool} : orR k (.ok (.bl b) m S) = if b then .ok (.bl true) .sh S else k S := by cases b <;> rfl
@[simp] theorem evE_and {a b : CE} : evE G Φ (.and a b) r S = andR (evE G Φ b r) (evE G Φ a r S) := by
  simp only [evE]
  cases evE G Φ a r S with
  | ok v m S => cases v with
    | bl b => cases b <;> rfl
    | _ => rfl
  | _ => rfl
@[simp] theorem evE_or {a b : CE} : evE G Φ (.or a b) r S = orR (evE G Φ b r) (evE G Φ a r S) := by
  simp only [evE]
  cases evE G Φ a r S with
  | ok v m S => cases v with
    | bl b => cases b <;> rfl
    | _ => rfl
  | _ => rfl
def notR : Res → Res
  | .ok (.bl b) _ S => .ok (.bl !b) .sh S
  | .exc c S => .exc c S
  | _ => .bad
@[simp] theorem notR_ok {b : Bool} : notR (.ok (.bl b) m S) = .ok (.bl !b) .sh S := rfl
@[simp] theorem evE_not {a : CE} : evE G Φ (.not a) r S = notR (evE G Φ a r S) := by
  simp only [evE]
  cases evE G Φ a r S with
  | ok v m S => cases v <;> rfl
  | _ => rfl
def iteR (a b : Sto → Res) : TRes → Res
  | .ok k S => if k then a S else b S
  | .exc c S => .exc c S
  | .bad => .bad
variable {ka kb : Sto → Res}
@[simp] theorem iteR_ok {c : Bool} : iteR ka kb (.ok c S) = if c then ka S else kb S := rfl
@[simp] theorem evE_ite {c : CT} {a b : CE} : evE G Φ (.ite c a b) r S = iteR (evE G Φ a r) (evE G Φ b r) (evT G Φ c r S) := by
  simp only [evE]
  cases evT G Φ c r S <;> rfl
def tupR : Ress → Res
  | .ok vs S => .ok (.tup (vs.map shOf)) .sh S
  | .exc c S => .exc c S
  | .bad => .bad
def lstR : Ress → Res
  | .ok vs S => .ok (.lst (vs.map shOf)) .own S
  | .exc c S => .exc c S
  | .bad => .bad
variable {vs : List Sl}
@[simp] theorem tupR_ok : tupR (.ok vs S) = .ok (.tup (vs.map shOf)) .sh S := rfl
@[simp] theorem lstR_ok : lstR (.ok vs S) = .ok (.lst (vs.map shOf)) .own S := rfl
@[simp] theorem evE_tup {es : CEs} : evE G Φ (.tup es) r S = tupR (evA G Φ es r S) := by
  simp only [evE]
  cases evA G Φ es r S <;> rfl
@[simp] theorem evE_lst {es : CEs} : evE G Φ (.lst es) r S = lstR (evA G Φ es r S) := by
  simp only [evE]
  cases evA G Φ es r S <;> rfl
@[simp] theorem evE_dnw : evE G Φ .dnw r S = .ok (.dct []) .own S := by simp only [evE]
def callR (Φ : Phi) (f : Nat) : Ress → Res
  | .ok vs S => Φ f vs S
  | .exc c S => .exc c S
  | .bad => .bad
@[simp] theorem callR_ok {f : Nat} : callR Φ f (.ok vs S) = Φ f vs S := rfl
@[simp] theorem evE_call {f : Nat} {es : CEs} : evE G Φ (.call f es) r S = callR Φ f (evA G Φ es r S) := by
  simp only [evE]
  cases evA G Φ es r S <;> rfl
def biR (b : Bi) : Ress → Res
  | .ok vs S => ofO S (bi b (vs.map fun x => view S (shOf x)))
  | .exc c S => .exc c S
  | .bad => .bad
@[simp] theorem biR_1 {b : Bi} {a1 : Sl} : biR b (.ok [a1] S) = ofO S (bi b [view S (shOf a1)]) := rfl
@[simp] theorem biR_2 {b : Bi} {a1 a2 : Sl} : biR b (.ok [a1, a2] S) = ofO S (bi b [view S (shOf a1), view S (shOf a2)]) := rfl
@[simp] theorem evE_bi {b : Bi} {es : CEs} : evE G Φ (.bi b es) r S = biR b (evA G Φ es r S) := by
  simp only [evE]
  cases evA G Φ es r S <;> rfl
/-! arguments -/
def argR2 (v : PV) (m : Md) : Ress → Ress
  | .ok vs S => match m with
    | .sh => .ok (.sh v :: vs) S
    | .own => .ok (.own v :: vs) S
    | _ => .bad
  | .exc c S => .exc c S
  | .bad => .bad
def argR (k : Sto → Ress) : Res → Ress
  | .ok v m S => argR2 v m (k S)
  | .exc c S => .exc c S
  | .bad => .bad
variable {kk : Sto → Ress}
@[simp] theorem argR_ok : argR kk (.ok v m S) = argR2 v m (kk S) := rfl
@[simp] theorem argR2_sh : argR2 v .sh (.ok vs S) = .ok (.sh v :: vs) S := rfl
@[simp] theorem argR2_own : argR2 v .own (.ok vs S) = .ok (.own v :: vs) S := rfl
@[simp] theorem evA_nil : evA G Φ .nil r S = .ok [] S := by simp only [evA]
@[simp] theorem evA_cons {e : CE} {es : CEs} : evA G Φ (.cons e es) r S = argR (evA G Φ es r) (evE G Φ e r S) := by
  simp only [evA]
  cases evE G Φ e r S with
  | ok v m S1 =>
    simp only [Res.bindA_ok, argR_ok]
    cases evA G Φ es r S1 <;> rfl
  | _ => rfl
/-! tests -/
def tAnd (k : Sto → TRes) : TRes → TRes
  | .ok b S => if b then k S else .ok false S
  | .exc c S => .exc c S
  | .bad => .bad
def tOr (k : Sto → TRes) : TRes → TRes
  | .ok b S => if b then .ok true S else k S
  | .exc c S => .exc c S
  | .bad => .bad
def tNot : TRes → TRes
  | .ok b S => .ok (!b) S
  | .exc c S => .exc c S
  | .bad => .bad
def tIte (a b : Sto → TRes) : TRes → TRes
  | .ok k S => if k then a S else b S
  | .exc c S => .exc c S
  | .bad => .bad
def truR : Res → TRes
  | .ok v _ S => match truth (view S v) with
    | some b => .ok b S
    | none => .bad
  | .exc c S => .exc c S
  | .bad => .bad
variable {kt ku : Sto → TRes} {b : Bool}
@[simp] theorem tAnd_ok : tAnd kt (.ok b S) = if b then kt S else .ok false S := rfl
@[simp] theorem tOr_ok : tOr kt (.ok b S) = if b then .ok true S else kt S := rfl
@[simp] theorem tNot_ok : tNot (.ok b S) = .ok (!b) S := rfl
@[simp] theorem tIte_ok : tIte kt ku (.ok b S) = if b then kt S else ku S := rfl
@[simp] theorem truR_bl : truR (.ok (.bl b) m S) = .ok b S := rfl
@[simp] theorem truR_int {i : Int} : truR (.ok (.int i) m S) = .ok (i != 0) S := rfl
@[simp] theorem truR_non : truR (.ok .non m S) = .ok false S := rfl
@[simp] theorem truR_lst {xs : List PV} : truR (.ok (.lst xs) m S) = .ok (!xs.isEmpty) S := rfl
@[simp] theorem truR_tup {xs : List PV} : truR (.ok (.tup xs) m S) = .ok (!xs.isEmpty) S := rfl
@[simp] theorem evT_and {a b : CT} : evT G Φ (.and a b) r S = tAnd (evT G Φ b r) (evT G Φ a r S) := by
  simp only [evT]
  cases evT G Φ a r S <;> rfl
@[simp] theorem evT_or {a b : CT} : evT G Φ (.or a b) r S = tOr (evT G Φ b r) (evT G Φ a r S) := by
  simp only [evT]
  cases evT G Φ a r S <;> rfl
@[simp] theorem evT_not {a : CT} : evT G Φ (.not a) r S = tNot (evT G Φ a r S) := by
  simp only [evT]
  cases evT G Φ a r S <;> rfl
@[simp] theorem evT_ite {c a b : CT} : evT G Φ (.ite c a b) r S = tIte (evT G Φ a r) (evT G Φ b r) (evT G Φ c r S) := by
  simp only [evT]
  cases evT G Φ c r S <;> rfl
@[simp] theorem evT_cm {op : COp} {a b : CE} : evT G Φ (.cm op a b) r S = toT (twoR (cmpF op) (simpE b) (evE G Φ b r) (evE G Φ a r S)) := by
  simp only [evT]
  exact congrArg toT (two_eq (f := cmpF op))
/-- three in a row -/
def chnF (o2 : COp) (c : Sto → Res) (y : PV) (S2 : Sto) : Option Bool → Res
  | some true => twoR2 (cmpF o2) y .sh (c S2)
  | some false => .ok (.bl false) .sh S2
  | none => .bad
def chnR2 (o1 o2 : COp) (c : Sto → Res) (x : PV) (m : Md) : Res → Res
  | .ok y n S2 => if m.isSh && n.isSh then chnF o2 c y S2 (cmp2 o1 true (view S2 x) (view S2 y)) else .bad
  | .exc c S => .exc c S
  | .bad => .bad
def chnR (o1 o2 : COp) (b c : Sto → Res) : Res → Res
  | .ok x m S => chnR2 o1 o2 c x m (b S)
  | .exc c S => .exc c S
  | .bad => .bad
variable {o1 o2 : COp}
theorem chnF_b {b : Bool} : chnF o2 k y S (some b) = if b then twoR2 (cmpF o2) y .sh (k S) else .ok (.bl false) .sh S := by cases b <;> rfl
@[simp] theorem chnR2_sh : chnR2 o1 o2 k x .sh (.ok y .sh S) = chnF o2 k y S (cmp2 o1 true (view S x) (view S y)) := rfl
@[simp] theorem chnR_ok : chnR o1 o2 ka k (.ok x m S) = chnR2 o1 o2 k x m (ka S) := rfl
theorem chn_eq {o1 o2 : COp} {a b c : CE} : evE G Φ (.chn o1 o2 a b c) r S = chnR o1 o2 (evE G Φ b r) (evE G Φ c r) (evE G Φ a r S) := by
  simp only [evE]
  cases evE G Φ a r S with
  | ok x m S1 =>
    simp only [Res.bind_ok, chnR_ok]
    cases evE G Φ b r S1 with
    | ok y n S2 =>
      simp only [Res.bind_ok, chnR2]
      cases m.isSh && n.isSh with
      | false => rfl
      | true =>
        rw [if_pos rfl, if_pos rfl]
        cases cmp2 o1 true (view S2 x) (view S2 y) with
        | none => rfl
        | some k => cases k with
          | false => rfl
          | true =>
            show (evE G Φ c r S2).bind _ = twoR2 (cmpF o2) y .sh (evE G Φ c r S2)
            cases evE G Φ c r S2 <;> rfl
    | _ => rfl
  | _ => rfl
@[simp] theorem evE_chn {o1 o2 : COp} {a b c : CE} : evE G Φ (.chn o1 o2 a b c) r S = chnR o1 o2 (evE G Φ b r) (evE G Φ c r) (evE G Φ a r S) := chn_eq
@[simp] theorem evT_chn {o1 o2 : COp} {a b c : CE} : evT G Φ (.chn o1 o2 a b c) r S = toT (chnR o1 o2 (evE G Φ b r) (evE G Φ c r) (evE G Φ a r S)) := by
  rw [← chn_eq]
  simp only [evT, evE]
def chnG (o2 o3 : COp) (k : Sto → Res) (y z : PV) (S3 : Sto) : Option Bool → Res
  | some true => twoR2 (cmpF o3) z .sh (k S3)
  | some false => .ok (.bl false) .sh S3
  | none => .bad
def chnR4 (o2 o3 : COp) (k : Sto → Res) (y : PV) : Res → Res
  | .ok z p S3 => if p.isSh then chnG o2 o3 k y z S3 (cmp2 o2 true (view S3 y) (view S3 z)) else .bad
  | .exc c S => .exc c S
  | .bad => .bad
def chnH (o2 o3 : COp) (c d : Sto → Res) (y : PV) (S2 : Sto) : Option Bool → Res
  | some true => chnR4 o2 o3 d y (c S2)
  | some false => .ok (.bl false) .sh S2
  | none => .bad
def chnR3 (o1 o2 o3 : COp) (c d : Sto → Res) (x : PV) (m : Md) : Res → Res
  | .ok y n S2 => if m.isSh && n.isSh then chnH o2 o3 c d y S2 (cmp2 o1 true (view S2 x) (view S2 y)) else .bad
  | .exc c S => .exc c S
  | .bad => .bad
def chnR1 (o1 o2 o3 : COp) (b c d : Sto → Res) : Res → Res
  | .ok x m S => chnR3 o1 o2 o3 c d x m (b S)
  | .exc c S => .exc c S
  | .bad => .bad
section
variable {o3 : COp} {kd kc : Sto → Res} {z : PV}
theorem chnG_b {b : Bool} : chnG o2 o3 k y z S (some b) = if b then twoR2 (cmpF o3) z .sh (k S) else .ok (.bl false) .sh S := by cases b <;> rfl
@[simp] theorem chnR4_sh : chnR4 o2 o3 k y (.ok z .sh S) = chnG o2 o3 k y z S (cmp2 o2 true (view S y) (view S z)) := rfl
theorem chnH_b {b : Bool} : chnH o2 o3 kc kd y S (some b) = if b then chnR4 o2 o3 kd y (kc S) else .ok (.bl false) .sh S := by cases b <;> rfl
@[simp] theorem chnR3_sh : chnR3 o1 o2 o3 kc kd x .sh (.ok y .sh S) = chnH o2 o3 kc kd y S (cmp2 o1 true (view S x) (view S y)) := rfl
@[simp] theorem chnR1_ok : chnR1 o1 o2 o3 ka kc kd (.ok x m S) = chnR3 o1 o2 o3 kc kd x m (ka S) := rfl
theorem chn3_eq {a b c d : CE} : evE G Φ (.chn3 o1 o2 o3 a b c d) r S = chnR1 o1 o2 o3 (evE G Φ b r) (evE G Φ c r) (evE G Φ d r) (evE G Φ a r S) := by
  simp only [evE]
  cases evE G Φ a r S with
  | ok x m S1 =>
    simp only [Res.bind_ok, chnR1_ok]
    cases evE G Φ b r S1 with
    | ok y n S2 =>
      simp only [Res.bind_ok, chnR3]
      cases m.isSh && n.isSh with
      | false => rfl
      | true =>
        rw [if_pos rfl, if_pos rfl]
        cases cmp2 o1 true (view S2 x) (view S2 y) with
        | none => rfl
        | some k => cases k with
          | false => rfl
          | true =>
            simp only [chnH]
            cases evE G Φ c r S2 with
            | ok z p S3 =>
              simp only [Res.bind_ok, chnR4]
              cases p.isSh with
              | false => rfl
              | true =>
                rw [if_pos rfl, if_pos rfl]
                cases cmp2 o2 true (view S3 y) (view S3 z) with
                | none => rfl
                | some k => cases k with
                  | false => rfl
                  | true =>
                    simp only [chnG]
                    cases evE G Φ d r S3 <;> rfl
            | _ => rfl
    | _ => rfl
  | _ => rfl
@[simp] theorem evE_chn3 {a b c d : CE} : evE G Φ (.chn3 o1 o2 o3 a b c d) r S = chnR1 o1 o2 o3 (evE G Φ b r) (evE G Φ c r) (evE G Φ d r) (evE G Φ a r S) := chn3_eq
@[simp] theorem evT_chn3 {a b c d : CE} : evT G Φ (.chn3 o1 o2 o3 a b c d) r S = toT (chnR1 o1 o2 o3 (evE G Φ b r) (evE G Φ c r) (evE G Φ d r) (evE G Φ a r S)) := by
  rw [← chn3_eq]
  simp only [evT, evE]
end
@[simp] theorem evT_e {a : CE} : evT G Φ (.e a) r S = truR (evE G Φ a r S) := by
  simp only [evT]
  cases evE G Φ a r S <;> rfl
/-! what is walked -/
def seqR (b : Bool) : Res → IRes
  | .ok v m S => if m.walk b && walkD m v then (match walk v with
    | some xs => .ok xs S
    | none => .bad) else .bad
  | .exc c S => .exc c S
  | .bad => .bad
@[simp] theorem seqR_lst {xs : List PV} : seqR b (.ok (.lst xs) m S) = if m.walk b then .ok xs S else .bad := by simp only [seqR, walkD_lst, Bool.and_true]; rfl
@[simp] theorem seqR_tup {xs : List PV} : seqR b (.ok (.tup xs) m S) = if m.walk b then .ok xs S else .bad := by simp only [seqR, walkD_tup, Bool.and_true]; rfl
@[simp] theorem seqR_dct {kvs : List (Ky × PV)} : seqR b (.ok (.dct kvs) .sh S) = .ok (dom kvs) S := by simp [seqR, walk]
@[simp] theorem seqR_str {x : List Nat} : seqR b (.ok (.str x) .sh S) = .ok (x.map fun c => .str [c]) S := by simp [seqR, walk]
@[simp] theorem evI_seq {e : CE} : evI G Φ b (.seq e) r S = seqR b (evE G Φ e r S) := by
  simp only [evI]
  cases evE G Φ e r S with
  | ok v m S => cases h : m.walk b <;> cases h3 : walkD m v <;> cases h2 : walk v <;> simp [Res.bindI, seqR, h, h2, h3]
  | _ => rfl
def rngR : Res → IRes
  | .ok (.int j) _ S => if -4611686018427387904 ≤ j ∧ j < 4611686018427387904 then .ok (range 0 j.toNat) S else .bad
  | .exc c S => .exc c S
  | _ => .bad
@[simp] theorem rngR_int {j : Int} : rngR (.ok (.int j) m S) = if -4611686018427387904 ≤ j ∧ j < 4611686018427387904 then .ok (range 0 j.toNat) S else .bad := rfl
def enumR (b : Bool) : Res → IRes
  | .ok v m S => if m.walk b && isSeq v then (match walk v with
    | some xs => .ok (enumF 0 xs) S
    | none => .bad) else .bad
  | .exc c S => .exc c S
  | .bad => .bad
@[simp] theorem enumR_lst {xs : List PV} : enumR b (.ok (.lst xs) m S) = if m.walk b then .ok (enumF 0 xs) S else .bad := by simp only [enumR, isSeq, Bool.and_true]; rfl
@[simp] theorem enumR_tup {xs : List PV} : enumR b (.ok (.tup xs) m S) = if m.walk b then .ok (enumF 0 xs) S else .bad := by simp only [enumR, isSeq, Bool.and_true]; rfl
@[simp] theorem evI_enum {e : CE} : evI G Φ b (.enum e) r S = enumR b (evE G Φ e r S) := by
  simp only [evI]
  cases evE G Φ e r S with
  | ok v m S => cases h : m.walk b <;> cases h3 : isSeq v <;> cases h2 : walk v <;> simp [Res.bindI, enumR, h, h2, h3]
  | _ => rfl
def zipR2 (b : Bool) (v : PV) (m : Md) : Res → IRes
  | .ok u n S => match m.walk b && n.walk b && sameSq v u, walk v, walk u with
    | true, some xs, some ys => .ok (zipF xs ys) S
    | _, _, _ => .bad
  | .exc c S => .exc c S
  | .bad => .bad
def zipR (b : Bool) (k : Sto → Res) : Res → IRes
  | .ok v m S => zipR2 b v m (k S)
  | .exc c S => .exc c S
  | .bad => .bad
@[simp] theorem zipR_ok : zipR b k (.ok v m S) = zipR2 b v m (k S) := rfl
@[simp] theorem zipR2_tt {xs ys : List PV} : zipR2 b (.tup xs) .sh (.ok (.tup ys) .sh S) = .ok (zipF xs ys) S := rfl
@[simp] theorem zipR2_ll {xs ys : List PV} : zipR2 b (.lst xs) .sh (.ok (.lst ys) .sh S) = .ok (zipF xs ys) S := rfl
@[simp] theorem zipR2_lo {xs ys : List PV} : zipR2 b (.lst xs) .own (.ok (.lst ys) .sh S) = .ok (zipF xs ys) S := rfl
@[simp] theorem evI_zip {e f : CE} : evI G Φ b (.zip e f) r S = zipR b (evE G Φ f r) (evE G Φ e r S) := by
  simp only [evI]
  cases evE G Φ e r S with
  | ok v m S =>
    simp only [Res.bindI, zipR_ok]
    cases evE G Φ f r S <;> rfl
  | _ => rfl
@[simp] theorem evI_rng1 {e : CE} : evI G Φ b (.rng1 e) r S = rngR (evE G Φ e r S) := by
  simp only [evI]
  cases evE G Φ e r S with
  | ok v m S => cases v <;> rfl
  | _ => rfl
def rng2R2 (i : Int) : Res → IRes
  | .ok (.int j) _ S => if -4611686018427387904 ≤ i ∧ i < 4611686018427387904 ∧ -4611686018427387904 ≤ j ∧ j < 4611686018427387904 then .ok (range i (j - i).toNat) S else .bad
  | .exc c S => .exc c S
  | _ => .bad
@[simp] theorem rng2R2_int {i j : Int} : rng2R2 i (.ok (.int j) m S) = if -4611686018427387904 ≤ i ∧ i < 4611686018427387904 ∧ -4611686018427387904 ≤ j ∧ j < 4611686018427387904 then .ok (range i (j - i).toNat) S else .bad := rfl
/-! dicts -/
def dspR (ks : List Ky) : Ress → Res
  | .ok vs S => .ok (.dct (dictOf (ks.zip (vs.map shOf)))) .own S
  | .exc c S => .exc c S
  | .bad => .bad
@[simp] theorem dspR_ok {ks : List Ky} : dspR ks (.ok vs S) = .ok (.dct (dictOf (ks.zip (vs.map shOf)))) .own S := rfl
@[simp] theorem evE_dsp {ks : List Ky} {es : CEs} : evE G Φ (.dsp ks es) r S = dspR ks (evA G Φ es r S) := by
  simp only [evE]
  cases evA G Φ es r S <;> rfl
def dset2 (i : Nat) (kvs : List (Ky × PV)) (v : PV) (m : Md) (r : Env) : Res → SRes
  | .ok x n S => dsetR i kvs v m x n r S
  | .exc c S => .exc c r S
  | .bad => .bad
def dset1 (i : Nat) (kvs : List (Ky × PV)) (r : Env) (k : Sto → Res) : Res → SRes
  | .ok v m S => dset2 i kvs v m r (k S)
  | .exc c S => .exc c r S
  | .bad => .bad
@[simp] theorem dset1_ok {i : Nat} {kvs : List (Ky × PV)} : dset1 i kvs r k (.ok v m S) = dset2 i kvs v m r (k S) := rfl
@[simp] theorem dset2_ok {i : Nat} {kvs : List (Ky × PV)} : dset2 i kvs v m r (.ok x n S) = dsetR i kvs v m x n r S := rfl
def dsetT (e : Env → Sto → Res) (k : Env → Sto → Res) (i : Nat) (r : Env) (S : Sto) : Option Sl → SRes
  | some (.own (.dct kvs)) => dset1 i kvs r (k r) (e r S)
  | _ => .bad
@[simp] theorem dsetT_ok {e k : Env → Sto → Res} {i : Nat} {kvs : List (Ky × PV)} : dsetT e k i r S (some (.own (.dct kvs))) = dset1 i kvs r (k r) (e r S) := rfl
@[simp] theorem exS_dset {i : Nat} {k e : CE} : exS G Φ (.dset i k e) r S = dsetT (evE G Φ e) (evE G Φ k) i r S r[i]? := by
  simp only [exS, ownD]
  cases r[i]? with
  | none => rfl
  | some x => cases x with
    | own v => cases v with
      | dct kvs =>
        simp only [dsetT_ok]
        cases evE G Φ e r S with
        | ok v m S1 =>
          simp only [Res.bindS_ok, dset1_ok]
          cases evE G Φ k r S1 <;> rfl
        | _ => rfl
      | _ => rfl
    | _ => rfl
@[simp] theorem dsetR_str {i : Nat} {kvs : List (Ky × PV)} {x : List Nat} : dsetR i kvs v .sh (.str x) .sh r S = if kvs.length < lim ∧ kindOk (.str x) kvs = true then nxO S (setS r i (.own (.dct (putK (.str x) v kvs)))) else .bad := rfl
@[simp] theorem exS_kil {i : Nat} : exS G Φ (.kil i) r S = nxO S (setS r i .un) := by simp only [exS]
/-! statements -/
@[simp] theorem exB_nil : exB G Φ .nil r S = .nx r S := by simp only [exB]
@[simp] theorem exB_cons {s : CS} {b : CSs} : exB G Φ (.cons s b) r S = (exS G Φ s r S).bind (exB G Φ b) := by simp only [exB]
def asgR (t : Tg) (r : Env) : Res → SRes
  | .ok v m S => nxO S (asgG S t v m r)
  | .exc c S => .exc c r S
  | .bad => .bad
@[simp] theorem asgR_ok {t : Tg} : asgR t r (.ok v m S) = nxO S (asgG S t v m r) := rfl
@[simp] theorem exS_asg {t : Tg} {e : CE} : exS G Φ (.asg t e) r S = asgR t r (evE G Φ e r S) := by
  simp only [exS]
  cases evE G Φ e r S <;> rfl
@[simp] theorem asgG_sh {i : Nat} : asgG S (.nm i) v .sh r = setS r i (.sh v) := rfl
@[simp] theorem asgG_own {i : Nat} : asgG S (.nm i) v .own r = setS r i (.own v) := rfl
@[simp] theorem asgG_tp2 {a b : Tg} : asgG S (.tp2 a b) v .sh r = bindG S (.tp2 a b) v r := rfl
@[simp] theorem asgG_tp3 {a b c : Tg} : asgG S (.tp3 a b c) v .sh r = bindG S (.tp3 a b c) v r := rfl
@[simp] theorem bindG_nm {i : Nat} : bindG S (.nm i) v r = setS r i (.sh v) := rfl
@[simp] theorem bindG_tp2 {a b : Tg} : bindG S (.tp2 a b) (.tup [x, y]) r = (bindG S a x r).bind (bindG S b y) := rfl
def shrR (i : Nat) (r : Env) (S : Sto) : Option Sl → SRes
  | some x => nxO S (setS r i (share x))
  | none => .bad
@[simp] theorem shrR_some {i : Nat} {x : Sl} : shrR i r S (some x) = nxO S (setS r i (share x)) := rfl
@[simp] theorem exS_shr {i : Nat} : exS G Φ (.shr i) r S = shrR i r S r[i]? := by simp only [exS]; rfl
@[simp] theorem share_sh : share (.sh v) = .sh v := rfl
@[simp] theorem share_own : share (.own v) = .sh v := rfl
@[simp] theorem share_un : share .un = .un := rfl
@[simp] theorem shOf_sh : shOf (.sh v) = v := rfl
@[simp] theorem shOf_own : shOf (.own v) = v := rfl
def appS (i : Nat) (xs : List PV) (r : Env) : Res → SRes
  | .ok v m S => appR i xs v m r S
  | .exc c S => .exc c r S
  | .bad => .bad
def extS (i : Nat) (xs : List PV) (r : Env) : Res → SRes
  | .ok v m S => extR i xs (view S v) r S
  | .exc c S => .exc c r S
  | .bad => .bad
variable {xs ys : List PV} {i : Nat}
@[simp] theorem appS_sh : appS i xs r (.ok v .sh S) = if xs.length < lim then nxO S (setS r i (.own (.lst (xs ++ [v])))) else .bad := rfl
@[simp] theorem appS_own : appS i xs r (.ok v .own S) = if xs.length < lim then nxO S (setS r i (.own (.lst (xs ++ [v])))) else .bad := rfl
@[simp] theorem extS_ok : extS i xs r (.ok (.lst ys) m S) = if xs.length + ys.length ≤ lim then nxO S (setS r i (.own (.lst (xs ++ ys)))) else .bad := rfl
def ownS (r : Env) (i : Nat) : Option (List PV) := ownL r i
def appT (e : Env → Sto → Res) (i : Nat) (r : Env) (S : Sto) : Option Sl → SRes
  | some (.own (.lst xs)) => appS i xs r (e r S)
  | _ => .bad
def extT (e : Env → Sto → Res) (i : Nat) (r : Env) (S : Sto) : Option Sl → SRes
  | some (.own (.lst xs)) => extS i xs r (e r S)
  | _ => .bad
variable {ev : Env → Sto → Res}
@[simp] theorem appT_ok : appT ev i r S (some (.own (.lst xs))) = appS i xs r (ev r S) := rfl
@[simp] theorem extT_ok : extT ev i r S (some (.own (.lst xs))) = extS i xs r (ev r S) := rfl
@[simp] theorem exS_app {e : CE} : exS G Φ (.app i e) r S = appT (evE G Φ e) i r S r[i]? := by
  simp only [exS, ownL]
  cases r[i]? with
  | none => rfl
  | some x => cases x with
    | own v => cases v with
      | lst xs =>
        simp only [appT_ok]
        cases evE G Φ e r S <;> rfl
      | _ => rfl
    | _ => rfl
@[simp] theorem exS_ext {e : CE} : exS G Φ (.ext i e) r S = extT (evE G Φ e) i r S r[i]? := by
  simp only [exS, ownL]
  cases r[i]? with
  | none => rfl
  | some x => cases x with
    | own v => cases v with
      | lst xs =>
        simp only [extT_ok]
        cases evE G Φ e r S <;> rfl
      | _ => rfl
    | _ => rfl
def exprR (r : Env) : Res → SRes
  | .ok _ _ S => .nx r S
  | .exc c S => .exc c r S
  | .bad => .bad
@[simp] theorem exprR_ok : exprR r (.ok v m S) = .nx r S := rfl
@[simp] theorem exS_expr {e : CE} : exS G Φ (.expr e) r S = exprR r (evE G Φ e r S) := by
  simp only [exS]
  cases evE G Φ e r S <;> rfl
def rtR (r : Env) : Res → SRes
  | .ok v m S => retR v m S
  | .exc c S => .exc c r S
  | .bad => .bad
@[simp] theorem rtR_ok : rtR r (.ok v m S) = retR v m S := rfl
@[simp] theorem exS_ret {e : CE} : exS G Φ (.ret e) r S = rtR r (evE G Φ e r S) := by
  simp only [exS]
  cases evE G Φ e r S <;> rfl
@[simp] theorem exS_retn : exS G Φ .retn r S = .ret .non .sh S := by simp only [exS]
def rvR (S : Sto) : Option Sl → SRes
  | some (.sh v) => .ret v .sh S
  | some (.own v) => .ret v .own S
  | _ => .bad
@[simp] theorem rvR_sh : rvR S (some (.sh v)) = .ret v .sh S := rfl
@[simp] theorem rvR_own : rvR S (some (.own v)) = .ret v .own S := rfl
@[simp] theorem exS_retv : exS G Φ (.retv i) r S = rvR S r[i]? := by simp only [exS]; rfl
def ifR (a b : Env → Sto → SRes) (r : Env) : TRes → SRes
  | .ok k S => if k then a r S else b r S
  | .exc c S => .exc c r S
  | .bad => .bad
variable {sa sb : Env → Sto → SRes}
@[simp] theorem ifR_ok : ifR sa sb r (.ok b S) = if b then sa r S else sb r S := rfl
@[simp] theorem exS_ife {c : CT} {a b : CSs} : exS G Φ (.ife c a b) r S = ifR (exB G Φ a) (exB G Φ b) r (evT G Φ c r S) := by
  simp only [exS]
  cases evT G Φ c r S <;> rfl
@[simp] theorem exS_brk : exS G Φ .brk r S = .brk r S := by simp only [exS]
@[simp] theorem exS_cnt : exS G Φ .cnt r S = .cnt r S := by simp only [exS]
@[simp] theorem exS_pass : exS G Φ .pass r S = .nx r S := by simp only [exS]
/-- a for -/
def forT (t : Tg) (b : Env → Sto → SRes) (xs : List PV) (r : Env) (S : Sto) : SRes := forI (fun S x r => bindG S t x r) b xs r S
def forO (b : Env → Sto → SRes) (S : Sto) : Option Env → SRes
  | none => .bad
  | some r => b r S
@[simp] theorem forO_some : forO sa S (some r) = sa r S := rfl
theorem forT_nil {t : Tg} : forT t sa [] r S = .nx r S := rfl
theorem forT_cons {t : Tg} : forT t sa (x :: xs) r S = (forO sa S (bindG S t x r)).loop (forT t sa xs) := by
  show (match bindG S t x r with
    | none => SRes.bad
    | some r1 => (sa r1 S).loop fun r2 S2 => forI _ sa xs r2 S2) = _
  cases bindG S t x r <;> rfl
def forR (t : Tg) (b : Env → Sto → SRes) (r : Env) : IRes → SRes
  | .ok xs S => forT t b xs r S
  | .exc c S => .exc c r S
  | .bad => .bad
@[simp] theorem forR_ok {t : Tg} : forR t sa r (.ok xs S) = forT t sa xs r S := rfl
@[simp] theorem exS_for {t : Tg} {it : CI} {b : CSs} : exS G Φ (.for_ t it b) r S = forR t (exB G Φ b) r (evI G Φ false it r S) := by
  simp only [exS]
  cases evI G Φ false it r S <;> rfl
/-- a comprehension -/
def lcT (el : Env → Sto → Res) (t : Tg) (r : Env) (x : PV) (S : Sto) : LRes := match bindG S t x r with
  | none => .bad
  | some r1 => match el r1 S with
    | .ok v .sh S3 => .one v S3
    | .ok v .own S3 => .one v S3
    | _ => .bad
def lcfT (tc : Env → Sto → TRes) (el : Env → Sto → Res) (t : Tg) (r : Env) (x : PV) (S : Sto) : LRes := match bindG S t x r with
  | none => .bad
  | some r1 => match tc r1 S with
    | .ok true S2 => match el r1 S2 with
      | .ok v .sh S3 => .one v S3
      | .ok v .own S3 => .one v S3
      | _ => .bad
    | .ok false S2 => .skip S2
    | _ => .bad
def lcR (el : Env → Sto → Res) (t : Tg) (r : Env) : IRes → Res
  | .ok xs S => if lim < xs.length then .bad else lcI (lcT el t r) xs [] S
  | .exc c S => .exc c S
  | .bad => .bad
def lcfR (tc : Env → Sto → TRes) (el : Env → Sto → Res) (t : Tg) (r : Env) : IRes → Res
  | .ok xs S => if lim < xs.length then .bad else lcI (lcfT tc el t r) xs [] S
  | .exc c S => .exc c S
  | .bad => .bad
variable {tc : Env → Sto → TRes}
@[simp] theorem lcR_ok {t : Tg} : lcR ev t r (.ok xs S) = if lim < xs.length then .bad else lcI (lcT ev t r) xs [] S := rfl
@[simp] theorem lcfR_ok {t : Tg} : lcfR tc ev t r (.ok xs S) = if lim < xs.length then .bad else lcI (lcfT tc ev t r) xs [] S := rfl
@[simp] theorem evE_lc {el : CE} {t : Tg} {it : CI} : evE G Φ (.lc el t it) r S = lcR (evE G Φ el) t r (evI G Φ true it r S) := by
  simp only [evE]
  cases evI G Φ true it r S <;> rfl
@[simp] theorem evE_lcf {el : CE} {t : Tg} {it : CI} {c : CT} : evE G Φ (.lcf el t it c) r S = lcfR (evT G Φ c) (evE G Φ el) t r (evI G Φ true it r S) := by
  simp only [evE]
  cases evI G Φ true it r S <;> rfl
/-- one turn of a comprehension -/
def lcO (el : Env → Sto → Res) (S : Sto) : Option Env → LRes
  | none => .bad
  | some r1 => match el r1 S with
    | .ok v .sh S3 => .one v S3
    | .ok v .own S3 => .one v S3
    | _ => .bad
def oneR : Res → LRes
  | .ok v .sh S3 => .one v S3
  | .ok v .own S3 => .one v S3
  | _ => .bad
def filR (el : Env → Sto → Res) (r : Env) : TRes → LRes
  | .ok b S2 => if b then oneR (el r S2) else .skip S2
  | _ => .bad
def lcU (el : Env → Sto → Res) (S : Sto) : Option Env → LRes
  | none => .bad
  | some r => oneR (el r S)
def lcfU (tc : Env → Sto → TRes) (el : Env → Sto → Res) (S : Sto) : Option Env → LRes
  | none => .bad
  | some r => filR el r (tc r S)
@[simp] theorem oneR_sh : oneR (.ok v .sh S) = .one v S := rfl
@[simp] theorem oneR_own : oneR (.ok v .own S) = .one v S := rfl
@[simp] theorem filR_ok : filR ev r (.ok b S) = if b then oneR (ev r S) else .skip S := rfl
@[simp] theorem lcU_some : lcU ev S (some r) = oneR (ev r S) := rfl
@[simp] theorem lcfU_some : lcfU tc ev S (some r) = filR ev r (tc r S) := rfl
theorem lcT_eq {t : Tg} : lcT ev t r x S = lcU ev S (bindG S t x r) := by
  unfold lcT
  cases bindG S t x r with
  | none => rfl
  | some r1 =>
    show (match ev r1 S with
    | .ok v .sh S3 => LRes.one v S3
    | .ok v .own S3 => .one v S3
    | _ => .bad) = oneR (ev r1 S)
    cases ev r1 S with
    | ok v m S1 => cases m <;> rfl
    | _ => rfl
theorem lcfT_eq {t : Tg} : lcfT tc ev t r x S = lcfU tc ev S (bindG S t x r) := by
  unfold lcfT
  cases bindG S t x r with
  | none => rfl
  | some r1 =>
    show (match tc r1 S with
    | .ok true S2 => (match ev r1 S2 with
      | .ok v .sh S3 => LRes.one v S3
      | .ok v .own S3 => .one v S3
      | _ => .bad)
    | .ok false S2 => .skip S2
    | _ => .bad) = filR ev r1 (tc r1 S)
    cases tc r1 S with
    | ok b S1 => cases b with
      | true =>
        show (match ev r1 S1 with
      | .ok v .sh S3 => LRes.one v S3
      | .ok v .own S3 => .one v S3
      | _ => .bad) = oneR (ev r1 S1)
        cases ev r1 S1 with
        | ok v m S1 => cases m <;> rfl
        | _ => rfl
      | false => rfl
    | _ => rfl
/-! a comprehension over what is known -/
theorem lcI_map {f : PV → Sto → LRes} {h : PV → PV} {S : Sto} : ∀ (xs acc : List PV), (∀ x ∈ xs, f x S = .one (h x) S) → lcI f xs acc S = .ok (.lst (acc ++ xs.map h)) .own S
  | [], acc, _ => by simp [lcI]
  | x :: r, acc, k => by
    rw [lcI, k x List.mem_cons_self]
    simp only
    rw [lcI_map r _ fun y hy => k y (List.mem_cons_of_mem _ hy)]
    simp
theorem lcI_fil {f : PV → Sto → LRes} {p : PV → Bool} {h : PV → PV} {S : Sto} : ∀ (xs acc : List PV), (∀ x ∈ xs, f x S = if p x then .one (h x) S else .skip S) → lcI f xs acc S = .ok (.lst (acc ++ (xs.filter p).map h)) .own S
  | [], acc, _ => by simp [lcI]
  | x :: r, acc, k => by
    rw [lcI, k x List.mem_cons_self]
    cases c : p x with
    | true =>
      rw [if_pos rfl]
      simp only
      rw [lcI_fil r _ fun y hy => k y (List.mem_cons_of_mem _ hy)]
      simp [c]
    | false =>
      rw [if_neg (by simp)]
      simp only
      rw [lcI_fil r _ fun y hy => k y (List.mem_cons_of_mem _ hy)]
      simp [c]
/-! operations -/
section
variable {p q : Int} {z : Bool}
@[simp] theorem op2_add : op2 .add z (.int p) (.int q) = some (.int (p + q), .sh) := by cases z <;> rfl
@[simp] theorem op2_sub : op2 .sub z (.int p) (.int q) = some (.int (p - q), .sh) := by cases z <;> rfl
theorem op2_mul (h : (-two64 < p ∧ p < two64) ∨ (-two64 < q ∧ q < two64)) : op2 .mul z (.int p) (.int q) = some (.int (p * q), .sh) := by cases z <;> exact if_pos h
theorem op2_fdiv (h : q ≠ 0 ∧ q.natAbs < 1073741824) : op2 .fdiv z (.int p) (.int q) = some (.int (p.fdiv q), .sh) := by cases z <;> exact if_pos h
theorem op2_mod (h : q ≠ 0) : op2 .mod z (.int p) (.int q) = some (.int (p.fmod q), .sh) := by cases z <;> exact if_pos h
@[simp] theorem cmp2_eqI : cmp2 .eq z (.int p) (.int q) = some (decide (p = q)) := by
  show (if shallow (.int p) (.int q) then some (eqv (.int p) (.int q)) else none) = _
  rw [show shallow (.int p) (.int q) = true from rfl, if_pos rfl]
  rfl
@[simp] theorem cmp2_neI : cmp2 .ne z (.int p) (.int q) = some (decide (p ≠ q)) := by
  show (if shallow (.int p) (.int q) then some (!eqv (.int p) (.int q)) else none) = _
  rw [show shallow (.int p) (.int q) = true from rfl, if_pos rfl]
  show some (!decide (p = q)) = _
  simp
@[simp] theorem cmp2_lt : cmp2 .lt z (.int p) (.int q) = some (decide (p < q)) := by cases z <;> rfl
@[simp] theorem cmp2_le : cmp2 .le z (.int p) (.int q) = some (decide (p ≤ q)) := by cases z <;> rfl
@[simp] theorem cmp2_gt : cmp2 .gt z (.int p) (.int q) = some (decide (q < p)) := by cases z <;> rfl
@[simp] theorem cmp2_ge : cmp2 .ge z (.int p) (.int q) = some (decide (q ≤ p)) := by cases z <;> rfl
@[simp] theorem cmp2_eqS {a b : List Nat} : cmp2 .eq z (.str a) (.str b) = some (decide (a = b)) := by
  show (if shallow (.str a) (.str b) then some (eqv (.str a) (.str b)) else none) = _
  rw [show shallow (.str a) (.str b) = true from rfl, if_pos rfl]
  show some (a == b) = _
  by_cases h : a = b <;> simp [h]
@[simp] theorem cmp2_neS {a b : List Nat} : cmp2 .ne z (.str a) (.str b) = some (decide (a ≠ b)) := by
  show (if shallow (.str a) (.str b) then some (!eqv (.str a) (.str b)) else none) = _
  rw [show shallow (.str a) (.str b) = true from rfl, if_pos rfl]
  show some (!(a == b)) = _
  by_cases h : a = b <;> simp [h]
@[simp] theorem cmp2_isN : cmp2 .isN z x .non = some (isNon x) := by cases z <;> cases x <;> rfl
@[simp] theorem cmp2_notN : cmp2 .notN z x .non = some (!isNon x) := by cases z <;> cases x <;> rfl
@[simp] theorem isNon_non : isNon .non = true := rfl
@[simp] theorem isNon_int : isNon (.int p) = false := rfl
@[simp] theorem isNon_tup : isNon (.tup xs) = false := rfl
@[simp] theorem isNon_lst : isNon (.lst xs) = false := rfl
@[simp] theorem isNon_bl : isNon (.bl b) = false := rfl
@[simp] theorem isNon_str {a : List Nat} : isNon (.str a) = false := rfl
@[simp] theorem cmp2_notB {c : Bool} : cmp2 .notN z (.bl b) (.bl c) = some (!decide (b = c)) := by cases z <;> rfl
@[simp] theorem cmp2_isB {c : Bool} : cmp2 .isN z (.bl b) (.bl c) = some (decide (b = c)) := by cases z <;> rfl
/-- is it empty -/
@[simp] theorem cmp2_eqE : cmp2 .eq z (.lst xs) (.lst []) = if datas xs then some xs.isEmpty else none := by
  have e : shallow (.lst xs) (.lst []) = datas xs := by
    simp [shallow, data, datas, dep, deps]
  show (if shallow (.lst xs) (.lst []) then some (eqv (.lst xs) (.lst [])) else none) = _
  rw [e]
  cases xs <;> simp [eqv, eqvs]
@[simp] theorem cmp2_neE : cmp2 .ne z (.lst xs) (.lst []) = if datas xs then some (!xs.isEmpty) else none := by
  have e : shallow (.lst xs) (.lst []) = datas xs := by
    simp [shallow, data, datas, dep, deps]
  show (if shallow (.lst xs) (.lst []) then some (!eqv (.lst xs) (.lst [])) else none) = _
  rw [e]
  cases xs <;> simp [eqv, eqvs]
@[simp] theorem member_nil : member x [] = false := rfl
@[simp] theorem member_SS {a b : List Nat} : member (.str a) (.str b :: xs) = (decide (b = a) || member (.str a) xs) := by
  show ((b == a) || member (.str a) xs) = _
  by_cases h : b = a <;> simp [h]
@[simp] theorem member_II : member (.int p) (.int q :: xs) = (decide (q = p) || member (.int p) xs) := by
  show ((q == p) || member (.int p) xs) = _
  by_cases h : q = p <;> simp [h]
theorem member_ints : ∀ l : List Int, member (.int p) (l.map .int) = decide (p ∈ l)
  | [] => by simp
  | q :: r => by
    rw [List.map_cons, member_II, member_ints r]
    by_cases h : q = p
    · simp [h]
    · have h' : ¬ p = q := fun e => h e.symm
      simp [h, h']
@[simp] theorem cmp2_innST {a : List Nat} : cmp2 .inn z (.str a) (.tup xs) = if datas xs then some (member (.str a) xs) else none := by cases z <;> simp [cmp2, data, dep]
@[simp] theorem cmp2_innSL {a : List Nat} : cmp2 .inn z (.str a) (.lst xs) = if datas xs then some (member (.str a) xs) else none := by cases z <;> simp [cmp2, data, dep]
@[simp] theorem cmp2_innIT : cmp2 .inn z (.int p) (.tup xs) = if datas xs then some (member (.int p) xs) else none := by cases z <;> simp [cmp2, data, dep]
@[simp] theorem cmp2_innIL : cmp2 .inn z (.int p) (.lst xs) = if datas xs then some (member (.int p) xs) else none := by cases z <;> simp [cmp2, data, dep]
@[simp] theorem cmp2_ninST {a : List Nat} : cmp2 .nin z (.str a) (.tup xs) = if datas xs then some (!member (.str a) xs) else none := by cases z <;> simp [cmp2, data, dep]
@[simp] theorem cmp2_ninIL : cmp2 .nin z (.int p) (.lst xs) = if datas xs then some (!member (.int p) xs) else none := by cases z <;> simp [cmp2, data, dep]
@[simp] theorem datas_nil : datas [] = true := rfl
@[simp] theorem datas_S {a : List Nat} : datas (.str a :: xs) = datas xs := by simp [datas, data]
@[simp] theorem datas_I : datas (.int p :: xs) = datas xs := by simp [datas, data]
@[simp] theorem simpE_lit : simpE (.lit v) = true := rfl
@[simp] theorem simpE_var {i : Nat} : simpE (.var i) = true := rfl
@[simp] theorem cmp2_eqT {a b : Int} : cmp2 .eq z (.tup [.int p, .int q]) (.tup [.int a, .int b]) = some (decide (p = a) && decide (q = b)) := by
  show (if shallow (.tup [.int p, .int q]) (.tup [.int a, .int b]) then some (eqv (.tup [.int p, .int q]) (.tup [.int a, .int b])) else none) = _
  rw [show shallow (.tup [.int p, .int q]) (.tup [.int a, .int b]) = true from rfl, if_pos rfl]
  show some ((p == a) && ((q == b) && true)) = _
  by_cases h : p = a <;> by_cases h' : q = b <;> simp [h, h']
@[simp] theorem cmp2_neT {a b : Int} : cmp2 .ne z (.tup [.int p, .int q]) (.tup [.int a, .int b]) = some (!(decide (p = a) && decide (q = b))) := by
  show (if shallow (.tup [.int p, .int q]) (.tup [.int a, .int b]) then some (!eqv (.tup [.int p, .int q]) (.tup [.int a, .int b])) else none) = _
  rw [show shallow (.tup [.int p, .int q]) (.tup [.int a, .int b]) = true from rfl, if_pos rfl]
  show some (!((p == a) && ((q == b) && true))) = _
  by_cases h : p = a <;> by_cases h' : q = b <;> simp [h, h']
@[simp] theorem cmp2_eqNN : cmp2 .eq z .non .non = some true := by cases z <;> rfl
@[simp] theorem cmp2_neNN : cmp2 .ne z .non .non = some false := by cases z <;> rfl
@[simp] theorem cmp2_eqNT : cmp2 .eq z .non (.tup [.int p, .int q]) = some false := by cases z <;> rfl
@[simp] theorem cmp2_eqTN : cmp2 .eq z (.tup [.int p, .int q]) .non = some false := by cases z <;> rfl
@[simp] theorem cmp2_neNT : cmp2 .ne z .non (.tup [.int p, .int q]) = some true := by cases z <;> rfl
@[simp] theorem cmp2_neTN : cmp2 .ne z (.tup [.int p, .int q]) .non = some true := by cases z <;> rfl
@[simp] theorem cmp2_neB {c : Bool} : cmp2 .ne z (.bl b) (.bl c) = some (!decide (b = c)) := by cases z <;> cases b <;> cases c <;> rfl
@[simp] theorem cmp2_eqB {c : Bool} : cmp2 .eq z (.bl b) (.bl c) = some (decide (b = c)) := by cases z <;> cases b <;> cases c <;> rfl
@[simp] theorem bi_min : bi .min2 [.int p, .int q] = some (.int (if q < p then q else p), .sh) := rfl
@[simp] theorem bi_max : bi .max2 [.int p, .int q] = some (.int (if q > p then q else p), .sh) := rfl
@[simp] theorem bi_len : bi .len [.lst xs] = some (.int xs.length, .sh) := rfl
@[simp] theorem bi_lenT : bi .len [.tup xs] = some (.int xs.length, .sh) := rfl
@[simp] theorem bi_intI : bi .int [.int p] = some (.int p, .sh) := rfl
@[simp] theorem bi_intB : bi .int [.bl b] = some (.int (if b then 1 else 0), .sh) := rfl
theorem intsOf_map : ∀ l : List Int, intsOf (l.map .int) = some l
  | [] => rfl
  | x :: r => by simp [intsOf, intsOf_map r]
theorem datas_ints : ∀ l : List Int, datas (l.map .int) = true
  | [] => rfl
  | x :: r => by simp [datas, data, datas_ints r]
@[simp] theorem item_tup0 {x0 : PV} : item (.tup (x0 :: xs)) (.int 0) = some x0 := by
  have h : ((0 : Int) < ((x0 :: xs).length : Nat)) := by simp only [List.length_cons]; omega
  show ((if (0 : Int) ≤ 0 then (if (0 : Int) < ((x0 :: xs).length : Nat) then some (Int.toNat 0) else none) else _ : Option Nat).bind fun k => (x0 :: xs)[k]?) = _
  rw [if_pos (by decide), if_pos h]
  rfl
@[simp] theorem item_tup1 {x0 x1 : PV} : item (.tup (x0 :: x1 :: xs)) (.int 1) = some x1 := by
  have h : ((1 : Int) < ((x0 :: x1 :: xs).length : Nat)) := by simp only [List.length_cons]; omega
  show ((if (0 : Int) ≤ 1 then (if (1 : Int) < ((x0 :: x1 :: xs).length : Nat) then some (Int.toNat 1) else none) else _ : Option Nat).bind fun k => (x0 :: x1 :: xs)[k]?) = _
  rw [if_pos (by decide), if_pos h]
  rfl
@[simp] theorem item_tup2 {x0 x1 x2 : PV} : item (.tup (x0 :: x1 :: x2 :: xs)) (.int 2) = some x2 := by
  have h : ((2 : Int) < ((x0 :: x1 :: x2 :: xs).length : Nat)) := by simp only [List.length_cons]; omega
  show ((if (0 : Int) ≤ 2 then (if (2 : Int) < ((x0 :: x1 :: x2 :: xs).length : Nat) then some (Int.toNat 2) else none) else _ : Option Nat).bind fun k => (x0 :: x1 :: x2 :: xs)[k]?) = _
  rw [if_pos (by decide), if_pos h]
  rfl
@[simp] theorem item_tup3 {x0 x1 x2 x3 : PV} : item (.tup (x0 :: x1 :: x2 :: x3 :: xs)) (.int 3) = some x3 := by
  have h : ((3 : Int) < ((x0 :: x1 :: x2 :: x3 :: xs).length : Nat)) := by simp only [List.length_cons]; omega
  show ((if (0 : Int) ≤ 3 then (if (3 : Int) < ((x0 :: x1 :: x2 :: x3 :: xs).length : Nat) then some (Int.toNat 3) else none) else _ : Option Nat).bind fun k => (x0 :: x1 :: x2 :: x3 :: xs)[k]?) = _
  rw [if_pos (by decide), if_pos h]
  rfl
@[simp] theorem item_tup4 {x0 x1 x2 x3 x4 : PV} : item (.tup (x0 :: x1 :: x2 :: x3 :: x4 :: xs)) (.int 4) = some x4 := by
  have h : ((4 : Int) < ((x0 :: x1 :: x2 :: x3 :: x4 :: xs).length : Nat)) := by simp only [List.length_cons]; omega
  show ((if (0 : Int) ≤ 4 then (if (4 : Int) < ((x0 :: x1 :: x2 :: x3 :: x4 :: xs).length : Nat) then some (Int.toNat 4) else none) else _ : Option Nat).bind fun k => (x0 :: x1 :: x2 :: x3 :: x4 :: xs)[k]?) = _
  rw [if_pos (by decide), if_pos h]
  rfl
@[simp] theorem item_lst0 {x0 : PV} : item (.lst (x0 :: xs)) (.int 0) = some x0 := by
  have h : ((0 : Int) < ((x0 :: xs).length : Nat)) := by simp only [List.length_cons]; omega
  show ((if (0 : Int) ≤ 0 then (if (0 : Int) < ((x0 :: xs).length : Nat) then some (Int.toNat 0) else none) else _ : Option Nat).bind fun k => (x0 :: xs)[k]?) = _
  rw [if_pos (by decide), if_pos h]
  rfl
@[simp] theorem item_lst1 {x0 x1 : PV} : item (.lst (x0 :: x1 :: xs)) (.int 1) = some x1 := by
  have h : ((1 : Int) < ((x0 :: x1 :: xs).length : Nat)) := by simp only [List.length_cons]; omega
  show ((if (0 : Int) ≤ 1 then (if (1 : Int) < ((x0 :: x1 :: xs).length : Nat) then some (Int.toNat 1) else none) else _ : Option Nat).bind fun k => (x0 :: x1 :: xs)[k]?) = _
  rw [if_pos (by decide), if_pos h]
  rfl
@[simp] theorem item_lst2 {x0 x1 x2 : PV} : item (.lst (x0 :: x1 :: x2 :: xs)) (.int 2) = some x2 := by
  have h : ((2 : Int) < ((x0 :: x1 :: x2 :: xs).length : Nat)) := by simp only [List.length_cons]; omega
  show ((if (0 : Int) ≤ 2 then (if (2 : Int) < ((x0 :: x1 :: x2 :: xs).length : Nat) then some (Int.toNat 2) else none) else _ : Option Nat).bind fun k => (x0 :: x1 :: x2 :: xs)[k]?) = _
  rw [if_pos (by decide), if_pos h]
  rfl
@[simp] theorem item_lst3 {x0 x1 x2 x3 : PV} : item (.lst (x0 :: x1 :: x2 :: x3 :: xs)) (.int 3) = some x3 := by
  have h : ((3 : Int) < ((x0 :: x1 :: x2 :: x3 :: xs).length : Nat)) := by simp only [List.length_cons]; omega
  show ((if (0 : Int) ≤ 3 then (if (3 : Int) < ((x0 :: x1 :: x2 :: x3 :: xs).length : Nat) then some (Int.toNat 3) else none) else _ : Option Nat).bind fun k => (x0 :: x1 :: x2 :: x3 :: xs)[k]?) = _
  rw [if_pos (by decide), if_pos h]
  rfl
@[simp] theorem item_lst4 {x0 x1 x2 x3 x4 : PV} : item (.lst (x0 :: x1 :: x2 :: x3 :: x4 :: xs)) (.int 4) = some x4 := by
  have h : ((4 : Int) < ((x0 :: x1 :: x2 :: x3 :: x4 :: xs).length : Nat)) := by simp only [List.length_cons]; omega
  show ((if (0 : Int) ≤ 4 then (if (4 : Int) < ((x0 :: x1 :: x2 :: x3 :: x4 :: xs).length : Nat) then some (Int.toNat 4) else none) else _ : Option Nat).bind fun k => (x0 :: x1 :: x2 :: x3 :: x4 :: xs)[k]?) = _
  rw [if_pos (by decide), if_pos h]
  rfl
end
end
@[simp] theorem Md_fin_sh : Md.fin .sh = true := rfl
@[simp] theorem Md_fin_own : Md.fin .own = true := rfl
@[simp] theorem endR_nx {r : Env} {S : Sto} : endR (.nx r S) = .ok .non .sh S := rfl
@[simp] theorem endR_ret {v : PV} {m : Md} {S : Sto} : endR (.ret v m S) = if m.fin then .ok v m S else .bad := rfl
@[simp] theorem endR_exc {c : Nat} {r : Env} {S : Sto} : endR (.exc c r S) = .exc c S := rfl
theorem seq_to {G : Prg} {Φ : Phi} {c : CS} {b : CSs} {r r1 : Env} {S S1 : Sto} {R : SRes} (h : exS G Φ c r S = .nx r1 S1) (h2 : exB G Φ b r1 S1 = R) : exB G Φ (.cons c b) r S = R := by
  rw [exB_cons, h]
  exact h2
theorem run_eq {G : Prg} {D : Nat → Option CD} {n f : Nat} {vs : List Sl} {S : Sto} {d : CD} (h : D f = some d) (hl : vs.length = d.params) (ho : d.own = false := by rfl) : callN G D (n+1) f vs S = endR (exB G (callN G D n) d.body (vs.map share ++ List.replicate (d.slots - d.params) .un) S) := by
  simp only [callN, h, runD, if_pos hl, ho, if_neg Bool.false_ne_true]
/-- a def that keeps what is handed in -/
theorem run_eqO {G : Prg} {D : Nat → Option CD} {n f : Nat} {vs : List Sl} {S : Sto} {d : CD} (h : D f = some d) (hl : vs.length = d.params) (ho : d.own = true := by rfl) : callN G D (n+1) f vs S = endR (exB G (callN G D n) d.body (vs ++ List.replicate (d.slots - d.params) .un) S) := by
  simp only [callN, h, runD, if_pos hl, ho, if_true]
/-! ### the law's own draws -/
def dCell : CD := ⟨2, 2, (.cons (.ife (.cm .lt (.var 1) (.bi .len (.cons (.var 0) .nil))) (.cons (.ret (.sub (.var 0) (.var 1))) .nil) .nil) (.cons (.ife (.cm .eq (.var 0) (.lst .nil)) (.cons (.ret (.lit (.int 0))) .nil) .nil) (.cons (.ret (.bin .add (.bin .mul (.sub (.var 0) (.bin .mod (.var 1) (.bi .len (.cons (.var 0) .nil)))) (.lit (.int 31))) (.var 1))) .nil))), false⟩
def dPick (c : Nat) : CD := ⟨3, 4, (.cons (.asg (.nm 3) (.bin .mod (.bin .mul (.bin .add (.call c (.cons (.var 0) (.cons (.var 1) .nil))) (.bin .mul (.lit (.int 6151)) (.bin .add (.var 1) (.lit (.int 1))))) (.lit (.int 40692))) (.lit (.int 2147483399)))) (.cons (.ret (.bin .mod (.bin .mod (.bin .add (.bin .mul (.var 3) (.var 3)) (.bin .fdiv (.var 3) (.lit (.int 31)))) (.lit (.int 2147483629))) (.var 2))) .nil)), false⟩
section
variable {G : Prg} {D : Nat → Option CD}
theorem item_ints {ns : List Int} {i : Int} (h0 : 0 ≤ i) (h1 : i < ns.length) : ∃ v : Int, item (.lst (ns.map .int)) (.int i) = some (.int v) := by
  have hk : i.toNat < ns.length := by omega
  refine ⟨ns[i.toNat], ?_⟩
  show ((if (0 : Int) ≤ i then (if i < ((ns.map PV.int).length : Nat) then some i.toNat else none) else _ : Option Nat).bind fun k => (ns.map PV.int)[k]?) = _
  rw [if_pos h0, if_pos (by rw [List.length_map]; exact h1), Option.bind_some, List.getElem?_map, List.getElem?_eq_getElem hk]
  rfl
theorem cell_g {c n : Nat} {S : Sto} {xs : List PV} {i : Int} (hc : D c = some dCell) (h0 : 0 ≤ i) (hd : datas xs = true) (hi : ∀ j : Int, 0 ≤ j → j < xs.length → ∃ v : Int, item (.lst xs) (.int j) = some (.int v)) : ∃ v : Int, callN G D (n+1) c [.sh (.lst xs), .sh (.int i)] S = .ok (.int v) .sh S := by
  rw [run_eq (d := dCell) hc rfl]
  by_cases h1 : i < xs.length
  · obtain ⟨v, hv⟩ := hi i h0 h1
    exact ⟨v, by simp [dCell, h1, hv]⟩
  · cases he : xs.isEmpty with
    | true => exact ⟨0, by simp [dCell, h1, hd, he]⟩
    | false =>
      have hp : 0 < xs.length := by
        cases xs with
        | nil => cases he
        | cons _ _ => exact Nat.succ_pos _
      have hl : (0 : Int) < xs.length := by omega
      have hl' : (xs.length : Int) ≠ 0 := by omega
      obtain ⟨v, hv⟩ := hi (i.fmod xs.length) (Int.fmod_nonneg h0 (Int.le_of_lt hl)) (Int.fmod_lt_of_pos _ hl)
      have m1 : ∀ z, op2 .mod z (.int i) (.int xs.length) = some (.int (i.fmod xs.length), .sh) := fun z => op2_mod hl'
      have m2 : ∀ z, op2 .mul z (.int v) (.int 31) = some (.int (v * 31), .sh) := fun z => op2_mul (.inr (by decide))
      exact ⟨v * 31 + i, by simp [dCell, h1, hd, he, m1, m2, hv]⟩
theorem pick_ok {c p n : Nat} {S : Sto} {ns : List Int} {i many : Int} (hc : D c = some dCell) (hp : D p = some (dPick c)) (h0 : 0 ≤ i) (hm : 0 < many) : ∃ v : Int, (0 ≤ v ∧ v < many) ∧ callN G D (n+2) p [.sh (.lst (ns.map .int)), .sh (.int i), .sh (.int many)] S = .ok (.int v) .sh S := by
  rw [run_eq (d := dPick c) hp rfl]
  obtain ⟨e, he⟩ := cell_g (G := G) (n := n) (S := S) (xs := ns.map .int) hc h0 (datas_ints ns) fun j a b => item_ints a (by rwa [List.length_map] at b)
  have m1 : ∀ z, op2 .mul z (.int 6151) (.int (i + 1)) = some (.int (6151 * (i + 1)), .sh) := fun z => op2_mul (.inl (by decide))
  have m2 : ∀ z p, op2 .mul z (.int p) (.int 40692) = some (.int (p * 40692), .sh) := fun z p => op2_mul (.inr (by decide))
  have m3 : ∀ z p, op2 .mod z (.int p) (.int 2147483399) = some (.int (p.fmod 2147483399), .sh) := fun z p => op2_mod (by decide)
  have b1 := Int.fmod_nonneg_of_pos ((e + 6151 * (i + 1)) * 40692) (show (0:Int) < 2147483399 by decide)
  have b2 := Int.fmod_lt_of_pos ((e + 6151 * (i + 1)) * 40692) (show (0:Int) < 2147483399 by decide)
  generalize hq : ((e + 6151 * (i + 1)) * 40692).fmod 2147483399 = q at *
  have m4 : ∀ z, op2 .mul z (.int q) (.int q) = some (.int (q * q), .sh) := fun z => op2_mul (.inl (by unfold two64; omega))
  have m5 : ∀ z, op2 .fdiv z (.int q) (.int 31) = some (.int (q.fdiv 31), .sh) := fun z => op2_fdiv (by decide)
  have m6 : ∀ z p, op2 .mod z (.int p) (.int 2147483629) = some (.int (p.fmod 2147483629), .sh) := fun z p => op2_mod (by decide)
  have m7 : ∀ z p, op2 .mod z (.int p) (.int many) = some (.int (p.fmod many), .sh) := fun z p => op2_mod (by omega)
  refine ⟨((q * q + q.fdiv 31).fmod 2147483629).fmod many, ⟨Int.fmod_nonneg_of_pos _ hm, Int.fmod_lt_of_pos _ hm⟩, ?_⟩
  simp [dPick, he, m1, m2, m3, hq, m4, m5, m6, m7, setS]
end
end SR

namespace PR
open SR
def G : Prg := ⟨[((.str [97, 98, 99, 100, 101, 102, 103, 104, 105, 106, 107, 108, 109, 110, 111, 112, 113, 114, 115, 116, 117, 118, 119, 120, 121, 122]), true), ((.int 2), true), ((.int 32767), true), ((.int (-32768)), true), ((.tup [(.str [97, 100, 100]), (.str [115, 117, 98]), (.str [109, 117, 108]), (.str [113, 117, 111]), (.str [108, 101, 115, 115]), (.str [115, 97, 109, 101]), (.str [109, 105, 110]), (.str [109, 97, 120])]), true), ((.int 5), true), ((.int 20), true), ((.int 6), true), ((.int 4), true), ((.int 99), true), ((.int 3), true), ((.tup [(.int (-32768)), (.int 32767)]), true)], fun c m => match c, m with  | _, _ => none, fun c => match c with  | _ => none, []⟩
/-- reckoned: word one other -/
def d0 : CD := ⟨3, 3, (.cons (.ife (.cm .eq (.var 0) (.lit (.str [97, 100, 100]))) (.cons (.ret (.bin .add (.var 1) (.var 2))) .nil) .nil) (.cons (.ife (.cm .eq (.var 0) (.lit (.str [115, 117, 98]))) (.cons (.ret (.bin .sub (.var 1) (.var 2))) .nil) .nil) (.cons (.ife (.cm .eq (.var 0) (.lit (.str [109, 117, 108]))) (.cons (.ret (.bin .mul (.var 1) (.var 2))) .nil) .nil) (.cons (.ife (.cm .eq (.var 0) (.lit (.str [113, 117, 111]))) (.cons (.ret (.bin .fdiv (.var 1) (.var 2))) .nil) .nil) (.cons (.ife (.cm .eq (.var 0) (.lit (.str [108, 101, 115, 115]))) (.cons (.ret (.bi .int (.cons (.cmp .lt (.var 1) (.var 2)) .nil))) .nil) .nil) (.cons (.ife (.cm .eq (.var 0) (.lit (.str [115, 97, 109, 101]))) (.cons (.ret (.bi .int (.cons (.cmp .eq (.var 1) (.var 2)) .nil))) .nil) .nil) (.cons (.ret (.ite (.cm .eq (.var 0) (.lit (.str [109, 105, 110]))) (.bi .min2 (.cons (.var 1) (.cons (.var 2) .nil))) (.bi .max2 (.cons (.var 1) (.cons (.var 2) .nil))))) .nil))))))), false⟩
/-- joined: one other -/
def d1 : CD := ⟨2, 2, (.cons (.ife (.or (.cm .isN (.var 0) (.lit .non)) (.cm .isN (.var 1) (.lit .non))) (.cons (.ret (.ite (.cm .isN (.var 0) (.lit .non)) (.var 1) (.var 0))) .nil) .nil) (.cons (.ret (.tup (.cons (.bi .min2 (.cons (.sub (.var 0) (.lit (.int 0))) (.cons (.sub (.var 1) (.lit (.int 0))) .nil))) (.cons (.bi .max2 (.cons (.sub (.var 0) (.lit (.int 1))) (.cons (.sub (.var 1) (.lit (.int 1))) .nil))) .nil)))) .nil)), false⟩
/-- met: one other -/
def d2 : CD := ⟨2, 2, (.cons (.ife (.or (.cm .isN (.var 0) (.lit .non)) (.or (.cm .isN (.var 1) (.lit .non)) (.cm .gt (.bi .max2 (.cons (.sub (.var 0) (.lit (.int 0))) (.cons (.sub (.var 1) (.lit (.int 0))) .nil))) (.bi .min2 (.cons (.sub (.var 0) (.lit (.int 1))) (.cons (.sub (.var 1) (.lit (.int 1))) .nil)))))) (.cons (.ret (.lit .non)) .nil) .nil) (.cons (.ret (.tup (.cons (.bi .max2 (.cons (.sub (.var 0) (.lit (.int 0))) (.cons (.sub (.var 1) (.lit (.int 0))) .nil))) (.cons (.bi .min2 (.cons (.sub (.var 0) (.lit (.int 1))) (.cons (.sub (.var 1) (.lit (.int 1))) .nil))) .nil)))) .nil)), false⟩
/-- by_ends: word one other worths mine yours -/
def b4_0 : CSs := (.cons (.ext 3 (.lc (.call 0 (.cons (.var 0) (.cons (.var 4) (.cons (.var 5) .nil)))) (.nm 5) (.seq (.var 2)))) (.cons (.kil 4) .nil))
def d4 : CD := ⟨3, 6, (.cons (.asg (.nm 3) (.lst .nil)) (.cons (.for_ (.nm 4) (.seq (.var 1)) b4_0) (.cons (.shr 3) (.cons (.ret (.tup (.cons (.bi .minL (.cons (.var 3) .nil)) (.cons (.bi .maxL (.cons (.var 3) .nil)) .nil)))) .nil)))), false⟩
/-- divided: one other made part -/
def b5_0 : CSs := (.cons (.ife (.cm .notN (.var 3) (.lit .non)) (.cons (.asg (.nm 2) (.call 1 (.cons (.var 2) (.cons (.call 4 (.cons (.lit (.str [113, 117, 111])) (.cons (.var 0) (.cons (.var 3) .nil)))) .nil)))) (.cons (.shr 2) .nil)) .nil) (.cons (.kil 3) .nil))
def d5 : CD := ⟨2, 4, (.cons (.asg (.nm 2) (.lit .non)) (.cons (.for_ (.nm 3) (.seq (.tup (.cons (.call 2 (.cons (.var 1) (.cons (.tup (.cons (.bi .min2 (.cons (.sub (.var 1) (.lit (.int 0))) (.cons (.neg (.lit (.int 1))) .nil))) (.cons (.neg (.lit (.int 1))) .nil))) .nil))) (.cons (.call 2 (.cons (.var 1) (.cons (.tup (.cons (.lit (.int 1)) (.cons (.bi .max2 (.cons (.sub (.var 1) (.lit (.int 1))) (.cons (.lit (.int 1)) .nil))) .nil))) .nil))) .nil)))) b5_0) (.cons (.retv 2) .nil))), false⟩
/-- asked: word one other together -/
def d6 : CD := ⟨3, 4, (.cons (.ife (.cm .eq (.var 0) (.lit (.str [108, 101, 115, 115]))) (.cons (.ret (.tup (.cons (.bi .int (.cons (.cmp .lt (.sub (.var 1) (.lit (.int 1))) (.sub (.var 2) (.lit (.int 0)))) .nil)) (.cons (.bi .int (.cons (.cmp .lt (.sub (.var 1) (.lit (.int 0))) (.sub (.var 2) (.lit (.int 1)))) .nil)) .nil)))) .nil) .nil) (.cons (.asg (.nm 3) (.call 2 (.cons (.var 1) (.cons (.var 2) .nil)))) (.cons (.shr 3) (.cons (.ret (.tup (.cons (.bi .int (.cons (.and (.cmp .eq (.sub (.var 1) (.lit (.int 0))) (.sub (.var 1) (.lit (.int 1)))) (.cmp .eq (.var 1) (.var 2))) .nil)) (.cons (.bi .int (.cons (.cmp .notN (.var 3) (.lit .non)) .nil)) .nil)))) .nil)))), false⟩
/-- stretch_of: word one other -/
def d7 : CD := ⟨3, 3, (.cons (.ife (.or (.cm .isN (.var 1) (.lit .non)) (.cm .isN (.var 2) (.lit .non))) (.cons (.ret (.lit .non)) .nil) .nil) (.cons (.ife (.cm .eq (.var 0) (.lit (.str [113, 117, 111]))) (.cons (.ret (.call 5 (.cons (.var 1) (.cons (.var 2) .nil)))) .nil) .nil) (.cons (.ife (.cm .inn (.var 0) (.tup (.cons (.lit (.str [108, 101, 115, 115])) (.cons (.lit (.str [115, 97, 109, 101])) .nil)))) (.cons (.ret (.call 6 (.cons (.var 0) (.cons (.var 1) (.cons (.var 2) .nil))))) .nil) .nil) (.cons (.ret (.call 4 (.cons (.var 0) (.cons (.var 1) (.cons (.var 2) .nil))))) .nil)))), false⟩
/-- reckoned_from: expr book -/
def d44 : CD := ⟨2, 2, (.cons (.ife (.cm .eq (.sub (.var 0) (.lit (.int 0))) (.lit (.str [110, 117, 109]))) (.cons (.ret (.tup (.cons (.sub (.var 0) (.lit (.int 1))) (.cons (.sub (.var 0) (.lit (.int 1))) .nil)))) .nil) .nil) (.cons (.ife (.cm .eq (.sub (.var 0) (.lit (.int 0))) (.lit (.str [110, 97, 109, 101]))) (.cons (.ret (.sub (.var 1) (.sub (.var 0) (.lit (.int 1))))) .nil) .nil) (.cons (.ret (.call 2 (.cons (.call 7 (.cons (.sub (.var 0) (.lit (.int 0))) (.cons (.call 44 (.cons (.sub (.var 0) (.lit (.int 1))) (.cons (.var 1) .nil))) (.cons (.call 44 (.cons (.sub (.var 0) (.lit (.int 2))) (.cons (.var 1) .nil))) .nil)))) (.cons (.glob 11) .nil)))) .nil))), false⟩
/-- without_worth: stretch worth low high -/
def d45 : CD := ⟨2, 4, (.cons (.asg (.tp2 (.nm 2) (.nm 3)) (.var 0)) (.cons (.ife (.cm .eq (.var 2) (.var 1)) (.cons (.asg (.nm 2) (.bin .add (.var 2) (.lit (.int 1)))) .nil) .nil) (.cons (.ife (.cm .eq (.var 3) (.var 1)) (.cons (.asg (.nm 3) (.bin .sub (.var 3) (.lit (.int 1)))) .nil) .nil) (.cons (.ret (.ite (.cm .le (.var 2) (.var 3)) (.tup (.cons (.var 2) (.cons (.var 3) .nil))) (.lit .non))) .nil)))), false⟩
/-- kept_to: book expr stretch left made -/
def d46 : CD := ⟨3, 5, (.cons (.ife (.or (.cm .isN (.var 0) (.lit .non)) (.cm .ne (.sub (.var 1) (.lit (.int 0))) (.lit (.str [110, 97, 109, 101])))) (.cons (.retv 0) .nil) .nil) (.cons (.asg (.nm 3) (.call 2 (.cons (.sub (.var 0) (.sub (.var 1) (.lit (.int 1)))) (.cons (.var 2) .nil)))) (.cons (.shr 3) (.cons (.ife (.cm .isN (.var 3) (.lit .non)) (.cons (.ret (.lit .non)) .nil) .nil) (.cons (.asg (.nm 4) (.bi .dict (.cons (.var 0) .nil))) (.cons (.dset 4 (.sub (.var 1) (.lit (.int 1))) (.var 3)) (.cons (.retv 4) .nil))))))), false⟩
/-- unlike_to: book expr stretch left -/
def d47 : CD := ⟨3, 4, (.cons (.ife (.or (.cm .isN (.var 0) (.lit .non)) (.or (.cm .ne (.sub (.var 1) (.lit (.int 0))) (.lit (.str [110, 97, 109, 101]))) (.cm .ne (.sub (.var 2) (.lit (.int 0))) (.sub (.var 2) (.lit (.int 1)))))) (.cons (.retv 0) .nil) .nil) (.cons (.asg (.nm 3) (.call 45 (.cons (.sub (.var 0) (.sub (.var 1) (.lit (.int 1)))) (.cons (.sub (.var 2) (.lit (.int 0))) .nil)))) (.cons (.shr 3) (.cons (.ret (.ite (.cm .isN (.var 3) (.lit .non)) (.lit .non) (.call 46 (.cons (.var 0) (.cons (.var 1) (.cons (.var 3) .nil)))))) .nil)))), false⟩
/-- behind: expr book is_so one other -/
def d48 : CD := ⟨3, 5, (.cons (.asg (.nm 1) (.bi .dict (.cons (.var 1) .nil))) (.cons (.shr 1) (.cons (.ife (.cm .eq (.sub (.var 0) (.lit (.int 0))) (.lit (.str [110, 97, 109, 101]))) (.cons (.ret (.ite (.e (.var 2)) (.call 47 (.cons (.var 1) (.cons (.var 0) (.cons (.tup (.cons (.lit (.int 0)) (.cons (.lit (.int 0)) .nil))) .nil)))) (.call 46 (.cons (.var 1) (.cons (.var 0) (.cons (.tup (.cons (.lit (.int 0)) (.cons (.lit (.int 0)) .nil))) .nil)))))) .nil) .nil) (.cons (.ife (.cm .nin (.sub (.var 0) (.lit (.int 0))) (.tup (.cons (.lit (.str [108, 101, 115, 115])) (.cons (.lit (.str [115, 97, 109, 101])) .nil)))) (.cons (.retv 1) .nil) .nil) (.cons (.asg (.nm 3) (.call 44 (.cons (.sub (.var 0) (.lit (.int 1))) (.cons (.var 1) .nil)))) (.cons (.shr 3) (.cons (.asg (.nm 4) (.call 44 (.cons (.sub (.var 0) (.lit (.int 2))) (.cons (.var 1) .nil)))) (.cons (.shr 4) (.cons (.ife (.or (.cm .isN (.var 3) (.lit .non)) (.cm .isN (.var 4) (.lit .non))) (.cons (.ret (.lit .non)) .nil) .nil) (.cons (.ife (.and (.cm .eq (.sub (.var 0) (.lit (.int 0))) (.lit (.str [115, 97, 109, 101]))) (.e (.var 2))) (.cons (.ret (.call 46 (.cons (.call 46 (.cons (.var 1) (.cons (.sub (.var 0) (.lit (.int 1))) (.cons (.var 4) .nil)))) (.cons (.sub (.var 0) (.lit (.int 2))) (.cons (.var 3) .nil))))) .nil) .nil) (.cons (.ife (.cm .eq (.sub (.var 0) (.lit (.int 0))) (.lit (.str [115, 97, 109, 101]))) (.cons (.ret (.call 47 (.cons (.call 47 (.cons (.var 1) (.cons (.sub (.var 0) (.lit (.int 1))) (.cons (.var 4) .nil)))) (.cons (.sub (.var 0) (.lit (.int 2))) (.cons (.var 3) .nil))))) .nil) .nil) (.cons (.ife (.e (.var 2)) (.cons (.asg (.nm 1) (.call 46 (.cons (.var 1) (.cons (.sub (.var 0) (.lit (.int 1))) (.cons (.tup (.cons (.glob 3) (.cons (.bin .sub (.sub (.var 4) (.lit (.int 1))) (.lit (.int 1))) .nil))) .nil))))) (.cons (.shr 1) (.cons (.ret (.call 46 (.cons (.var 1) (.cons (.sub (.var 0) (.lit (.int 2))) (.cons (.tup (.cons (.bin .add (.sub (.var 3) (.lit (.int 0))) (.lit (.int 1))) (.cons (.glob 2) .nil))) .nil))))) .nil))) .nil) (.cons (.asg (.nm 1) (.call 46 (.cons (.var 1) (.cons (.sub (.var 0) (.lit (.int 1))) (.cons (.tup (.cons (.sub (.var 4) (.lit (.int 0))) (.cons (.glob 2) .nil))) .nil))))) (.cons (.shr 1) (.cons (.ret (.call 46 (.cons (.var 1) (.cons (.sub (.var 0) (.lit (.int 2))) (.cons (.tup (.cons (.glob 3) (.cons (.sub (.var 3) (.lit (.int 1))) .nil))) .nil))))) .nil))))))))))))))), false⟩
/-- _law_cell: _law_script _law_k -/
def d8 : CD := ⟨2, 2, (.cons (.ife (.cm .lt (.var 1) (.bi .len (.cons (.var 0) .nil))) (.cons (.ret (.sub (.var 0) (.var 1))) .nil) .nil) (.cons (.ife (.cm .eq (.var 0) (.lst .nil)) (.cons (.ret (.lit (.int 0))) .nil) .nil) (.cons (.ret (.bin .add (.bin .mul (.sub (.var 0) (.bin .mod (.var 1) (.bi .len (.cons (.var 0) .nil)))) (.lit (.int 31))) (.var 1))) .nil))), false⟩
/-- _law_pick: _law_script _law_k _law_many _law_drawn -/
def d9 : CD := ⟨3, 4, (.cons (.asg (.nm 3) (.bin .mod (.bin .mul (.bin .add (.call 8 (.cons (.var 0) (.cons (.var 1) .nil))) (.bin .mul (.lit (.int 6151)) (.bin .add (.var 1) (.lit (.int 1))))) (.lit (.int 40692))) (.lit (.int 2147483399)))) (.cons (.ret (.bin .mod (.bin .mod (.bin .add (.bin .mul (.var 3) (.var 3)) (.bin .fdiv (.var 3) (.lit (.int 31)))) (.lit (.int 2147483629))) (.var 2))) .nil)), false⟩
/-- _law_reckoned: _law_word _law_one _law_other -/
def d10 : CD := ⟨3, 3, (.cons (.ife (.cm .eq (.var 0) (.lit (.str [97, 100, 100]))) (.cons (.ret (.bin .add (.var 1) (.var 2))) .nil) .nil) (.cons (.ife (.cm .eq (.var 0) (.lit (.str [115, 117, 98]))) (.cons (.ret (.bin .sub (.var 1) (.var 2))) .nil) .nil) (.cons (.ife (.cm .eq (.var 0) (.lit (.str [109, 117, 108]))) (.cons (.ret (.bin .mul (.var 1) (.var 2))) .nil) .nil) (.cons (.ife (.cm .eq (.var 0) (.lit (.str [113, 117, 111]))) (.cons (.ret (.bin .fdiv (.var 1) (.var 2))) .nil) .nil) (.cons (.ife (.cm .inn (.var 0) (.tup (.cons (.lit (.str [108, 101, 115, 115])) (.cons (.lit (.str [115, 97, 109, 101])) .nil)))) (.cons (.ret (.ite (.ite (.cm .eq (.var 0) (.lit (.str [108, 101, 115, 115]))) (.cm .lt (.var 1) (.var 2)) (.cm .eq (.var 1) (.var 2))) (.lit (.int 1)) (.lit (.int 0)))) .nil) .nil) (.cons (.ret (.sub (.bi .sorted (.cons (.lst (.cons (.var 1) (.cons (.var 2) .nil))) .nil)) (.ite (.cm .eq (.var 0) (.lit (.str [109, 105, 110]))) (.lit (.int 0)) (.lit (.int 1))))) .nil)))))), false⟩
/-- _law_side: _law_script _law_at -/
def d49 : CD := ⟨2, 2, (.cons (.ife (.cm .gt (.call 9 (.cons (.var 0) (.cons (.var 1) (.cons (.lit (.int 3)) .nil)))) (.lit (.int 0))) (.cons (.ret (.tup (.cons (.lit (.str [110, 97, 109, 101])) (.cons (.sub (.lst (.cons (.lit (.str [97])) (.cons (.lit (.str [98])) .nil))) (.call 9 (.cons (.var 0) (.cons (.bin .add (.var 1) (.lit (.int 1))) (.cons (.lit (.int 2)) .nil))))) .nil)))) .nil) .nil) (.cons (.ret (.tup (.cons (.lit (.str [110, 117, 109])) (.cons (.bin .sub (.call 9 (.cons (.var 0) (.cons (.bin .add (.var 1) (.lit (.int 2))) (.cons (.lit (.int 9)) .nil)))) (.lit (.int 4))) .nil)))) .nil)), false⟩
/-- _law_so: _law_expr _law_book -/
def d50 : CD := ⟨2, 2, (.cons (.ife (.cm .inn (.sub (.var 0) (.lit (.int 0))) (.tup (.cons (.lit (.str [110, 117, 109])) (.cons (.lit (.str [110, 97, 109, 101])) .nil)))) (.cons (.ret (.ite (.cm .eq (.sub (.var 0) (.lit (.int 0))) (.lit (.str [110, 117, 109]))) (.sub (.var 0) (.lit (.int 1))) (.sub (.var 1) (.sub (.var 0) (.lit (.int 1)))))) .nil) .nil) (.cons (.ret (.call 10 (.cons (.sub (.var 0) (.lit (.int 0))) (.cons (.call 50 (.cons (.sub (.var 0) (.lit (.int 1))) (.cons (.var 1) .nil))) (.cons (.call 50 (.cons (.sub (.var 0) (.lit (.int 2))) (.cons (.var 1) .nil))) .nil))))) .nil)), false⟩
/-- _law_hull: _law_worths -/
def d51 : CD := ⟨1, 1, (.cons (.ret (.ite (.cm .ne (.var 0) (.lst .nil)) (.tup (.cons (.bi .minL (.cons (.var 0) .nil)) (.cons (.bi .maxL (.cons (.var 0) .nil)) .nil))) (.lit .non))) .nil), false⟩
/-- _law_once: _law_script _law_book _law_k _law_name _law_low _law_expr _law_is_so _law_fits _law_a _law_told _law_alone _law_hulls _law_b _law_hull_here _law_names _law_high _law_side_here _law_pair -/
def b52_0 : CSs := (.cons (.asg (.nm 4) (.bin .sub (.call 9 (.cons (.var 0) (.cons (.bin .mul (.lit (.int 2)) (.var 2)) (.cons (.lit (.int 9)) .nil)))) (.lit (.int 4)))) (.cons (.dset 1 (.var 3) (.tup (.cons (.var 4) (.cons (.bin .add (.var 4) (.call 9 (.cons (.var 0) (.cons (.bin .add (.bin .mul (.lit (.int 2)) (.var 2)) (.lit (.int 1))) (.cons (.lit (.int 5)) .nil))))) .nil)))) (.cons (.kil 2) (.cons (.kil 3) (.cons (.kil 4) .nil)))))
def b52_1 : CSs := (.cons (.ife (.cm .eq (.cmp .ne (.call 50 (.cons (.var 5) (.cons (.dsp [.str [97], .str [98]] (.cons (.var 8) (.cons (.var 12) .nil))) .nil))) (.lit (.int 0))) (.var 6)) (.cons (.app 7 (.tup (.cons (.var 8) (.cons (.var 12) .nil)))) .nil) .nil) (.cons (.kil 12) .nil))
def b52_2 : CSs := (.cons (.kil 12) (.cons (.for_ (.nm 12) (.rng2 (.sub (.sub (.var 1) (.lit (.str [98]))) (.lit (.int 0))) (.bin .add (.sub (.sub (.var 1) (.lit (.str [98]))) (.lit (.int 1))) (.lit (.int 1)))) b52_1) (.cons (.kil 8) (.cons (.kil 12) .nil))))
def b52_3 : CSs := (.cons (.asg (.tp2 (.nm 4) (.nm 15)) (.sub (.var 9) (.var 3))) (.cons (.ife (.and (.cm .notN (.var 13) (.lit .non)) (.not (.chn3 .le .le .le (.var 4) (.sub (.var 13) (.lit (.int 0))) (.sub (.var 13) (.lit (.int 1))) (.var 15)))) (.cons (.ret (.lit (.bl false))) .nil) .nil) (.cons (.asg (.nm 14) (.lcf (.sub (.var 16) (.lit (.int 1))) (.nm 16) (.seq (.ite (.cm .eq (.sub (.var 5) (.lit (.int 0))) (.lit (.str [110, 97, 109, 101]))) (.lst (.cons (.var 5) .nil)) (.slcL (.var 5) (.lit (.int 1))))) (.cm .eq (.sub (.var 16) (.lit (.int 0))) (.lit (.str [110, 97, 109, 101]))))) (.cons (.shr 14) (.cons (.ife (.and (.e (.var 10)) (.and (.cm .notN (.var 13) (.lit .non)) (.and (.cm .inn (.var 3) (.var 14)) (.cm .ne (.sub (.var 9) (.var 3)) (.var 13))))) (.cons (.ret (.lit (.bl false))) .nil) .nil) (.cons (.ife (.and (.cm .nin (.var 3) (.var 14)) (.cm .ne (.sub (.var 9) (.var 3)) (.sub (.var 1) (.var 3)))) (.cons (.ret (.lit (.bl false))) .nil) .nil) (.cons (.kil 3) (.cons (.kil 4) (.cons (.kil 13) (.cons (.kil 14) (.cons (.kil 15) .nil)))))))))))
def b52_4 : CSs := (.cons (.asg (.nm 7) (.lst .nil)) (.cons (.kil 8) (.cons (.kil 12) (.cons (.for_ (.nm 8) (.rng2 (.sub (.sub (.var 1) (.lit (.str [97]))) (.lit (.int 0))) (.bin .add (.sub (.sub (.var 1) (.lit (.str [97]))) (.lit (.int 1))) (.lit (.int 1)))) b52_2) (.cons (.shr 7) (.cons (.asg (.nm 9) (.call 48 (.cons (.var 5) (.cons (.var 1) (.cons (.var 6) .nil))))) (.cons (.shr 9) (.cons (.asg (.nm 10) (.or (.cmp .eq (.sub (.var 5) (.lit (.int 0))) (.lit (.str [110, 97, 109, 101]))) (.cmp .ne (.sub (.var 5) (.lit (.int 1))) (.sub (.var 5) (.lit (.int 2)))))) (.cons (.ife (.cm .isN (.var 9) (.lit .non)) (.cons (.ife (.cm .ne (.var 7) (.lst .nil)) (.cons (.ret (.lit (.bl false))) .nil) .nil) (.cons (.kil 3) (.cons (.kil 4) (.cons (.kil 6) (.cons (.kil 7) (.cons (.kil 8) (.cons (.kil 9) (.cons (.kil 10) (.cons (.kil 11) (.cons (.kil 12) (.cons (.kil 13) (.cons (.kil 14) (.cons (.kil 15) (.cons .cnt .nil)))))))))))))) .nil) (.cons (.ife (.or (.cm .ne (.bi .sorted (.cons (.bi .list (.cons (.var 9) .nil)) .nil)) (.lst (.cons (.lit (.str [97])) (.cons (.lit (.str [98])) (.cons (.lit (.str [99])) .nil))))) (.cm .ne (.sub (.var 9) (.lit (.str [99]))) (.sub (.var 1) (.lit (.str [99]))))) (.cons (.ret (.lit (.bl false))) .nil) .nil) (.cons (.asg (.nm 11) (.lst (.cons (.call 51 (.cons (.lc (.sub (.var 17) (.lit (.int 0))) (.nm 17) (.seq (.var 7))) .nil)) (.cons (.call 51 (.cons (.lc (.sub (.var 17) (.lit (.int 1))) (.nm 17) (.seq (.var 7))) .nil)) .nil)))) (.cons (.shr 11) (.cons (.kil 3) (.cons (.kil 4) (.cons (.kil 13) (.cons (.kil 14) (.cons (.kil 15) (.cons (.for_ (.tp2 (.nm 3) (.nm 13)) (.zip (.lst (.cons (.lit (.str [97])) (.cons (.lit (.str [98])) .nil))) (.var 11)) b52_3) (.cons (.kil 3) (.cons (.kil 4) (.cons (.kil 6) (.cons (.kil 7) (.cons (.kil 8) (.cons (.kil 9) (.cons (.kil 10) (.cons (.kil 11) (.cons (.kil 12) (.cons (.kil 13) (.cons (.kil 14) (.cons (.kil 15) .nil))))))))))))))))))))))))))))))
def d52 : CD := ⟨1, 18, (.cons (.asg (.nm 1) .dnw) (.cons (.for_ (.tp2 (.nm 2) (.nm 3)) (.enum (.lst (.cons (.lit (.str [97])) (.cons (.lit (.str [98])) (.cons (.lit (.str [99])) .nil))))) b52_0) (.cons (.shr 1) (.cons (.asg (.nm 5) (.tup (.cons (.sub (.lst (.cons (.lit (.str [108, 101, 115, 115])) (.cons (.lit (.str [115, 97, 109, 101])) .nil))) (.call 9 (.cons (.var 0) (.cons (.lit (.int 6)) (.cons (.lit (.int 2)) .nil))))) (.cons (.call 49 (.cons (.var 0) (.cons (.lit (.int 10)) .nil))) (.cons (.call 49 (.cons (.var 0) (.cons (.lit (.int 20)) .nil))) .nil))))) (.cons (.ife (.cm .eq (.call 9 (.cons (.var 0) (.cons (.lit (.int 7)) (.cons (.lit (.int 4)) .nil)))) (.lit (.int 0))) (.cons (.asg (.nm 5) (.tup (.cons (.lit (.str [110, 97, 109, 101])) (.cons (.lit (.str [97])) .nil)))) .nil) .nil) (.cons (.kil 3) (.cons (.kil 4) (.cons (.for_ (.nm 6) (.seq (.tup (.cons (.lit (.bl true)) (.cons (.lit (.bl false)) .nil)))) b52_4) (.cons (.ret (.and (.cmp .eq (.call 44 (.cons (.tup (.cons (.lit (.str [110, 117, 109])) (.cons (.lit (.int 3)) .nil))) (.cons (.var 1) .nil))) (.tup (.cons (.lit (.int 3)) (.cons (.lit (.int 3)) .nil)))) (.cmp .eq (.call 44 (.cons (.tup (.cons (.lit (.str [110, 97, 109, 101])) (.cons (.lit (.str [98])) .nil))) (.cons (.var 1) .nil))) (.sub (.var 1) (.lit (.str [98])))))) .nil))))))))), false⟩
/-- law: _law_script _law_turn _law_cell_here -/
def b53_0 : CSs := (.cons (.ife (.not (.e (.call 52 (.cons (.lc (.bin .add (.var 2) (.bin .mul (.lit (.int 7919)) (.var 1))) (.nm 2) (.seq (.var 0))) .nil)))) (.cons (.ret (.lit (.bl false))) .nil) .nil) (.cons (.ife (.cm .eq (.var 0) (.lst .nil)) (.cons (.kil 1) (.cons .brk .nil)) .nil) (.cons (.kil 1) .nil)))
def d53 : CD := ⟨1, 3, (.cons (.for_ (.nm 1) (.rng1 (.lit (.int 8))) b53_0) (.cons (.ret (.lit (.bl true))) .nil)), false⟩
def D : Nat → Option CD
  | 0 => some d0
  | 1 => some d1
  | 2 => some d2
  | 4 => some d4
  | 5 => some d5
  | 6 => some d6
  | 7 => some d7
  | 44 => some d44
  | 45 => some d45
  | 46 => some d46
  | 47 => some d47
  | 48 => some d48
  | 8 => some d8
  | 9 => some d9
  | 10 => some d10
  | 49 => some d49
  | 50 => some d50
  | 51 => some d51
  | 52 => some d52
  | 53 => some d53
  | _ => none
end PR

set_option maxRecDepth 100000
set_option linter.unusedSimpArgs false
namespace PR
open SR
def srtI (l : List Int) : List Int := sortBy (fun a b => decide (a ≤ b)) l
theorem leI_one (a b : Int) : leI [a] [b] = decide (a ≤ b) := by
  show (decide (a < b) || (a == b && true)) = decide (a ≤ b)
  by_cases h : a < b
  · have : a ≤ b := by omega
    simp [h, this]
  · by_cases e : a = b
    · subst e
      simp
    · have h2 : ¬ a ≤ b := by omega
      simp [h, e, h2]
theorem rowsK_ints : ∀ l : List Int, rowsK 0 (l.map .int) = some (l.map fun i => [i])
  | [] => rfl
  | x :: r => by
    show (match sKey (.int x), rowsK 0 (r.map .int) with
      | some (k, a), some r => if k = 0 then some (a :: r) else none
      | _, _ => none) = _
    rw [rowsK_ints r]
    rfl
theorem kindOf_ints (l : List Int) : kindOf (l.map .int) = some (0, l.map fun i => [i]) := by
  cases l with
  | nil => rfl
  | cons x r =>
    have h := rowsK_ints (x :: r)
    show (sKey (.int x)).bind (fun p => (rowsK p.1 ((x :: r).map .int)).map fun r => (p.1, r)) = _
    show (rowsK 0 ((x :: r).map .int)).map (fun r => (0, r)) = _
    rw [h]
    rfl
theorem sorted_ints (l : List Int) : sorted (l.map .int) = some ((srtI l).map .int) := by
  show (kindOf (l.map .int)).bind (fun p => if p.1 < 3 ∨ p.2.Nodup then some (sortBy (fun a b => leI (rowOf a) (rowOf b)) (l.map .int)) else none) = _
  rw [kindOf_ints, Option.bind_some, if_pos (.inl (show (0:Nat) < 3 from by decide))]
  have e : sortBy (fun a b => decide (a ≤ b)) l = sortBy (fun a b => leI (rowOf (.int a)) (rowOf (.int b))) l := sort_congr l fun x _ y _ => (leI_one x y).symm
  unfold srtI
  rw [e, ← sort_map (le := fun a b => leI (rowOf a) (rowOf b)) PV.int l]
theorem sorted_two (a b : Int) : sorted [.int a, .int b] = some (if a ≤ b then [.int a, .int b] else [.int b, .int a]) := by
  have h := sorted_ints [a, b]
  simp only [List.map_cons, List.map_nil] at h
  rw [h]
  unfold srtI sortBy sortBy sortBy insertBy insertBy
  by_cases e : a ≤ b <;> simp [e]
theorem perm_srtI (l : List Int) : (srtI l).Perm l := sort_perm _ l
theorem mem_dedup {α : Type} [DecidableEq α] {x : α} : ∀ {l : List α}, x ∈ dedup l ↔ x ∈ l
  | [] => Iff.rfl
  | y :: r => by
    unfold dedup
    by_cases h : y ∈ r
    · rw [if_pos h, mem_dedup, List.mem_cons]
      constructor
      · exact .inr
      · rintro (rfl | h2)
        · exact h
        · exact h2
    · rw [if_neg h, List.mem_cons, List.mem_cons, mem_dedup]
theorem dedup_map {α β : Type} [DecidableEq α] [DecidableEq β] (f : α → β) (hf : ∀ x y, f x = f y → x = y) : ∀ l : List α, dedup (l.map f) = (dedup l).map f
  | [] => rfl
  | x :: r => by
    rw [List.map_cons]
    unfold dedup
    by_cases h : x ∈ r
    · rw [if_pos h, if_pos (List.mem_map.mpr ⟨x, h, rfl⟩), dedup_map f hf r]
    · have h' : f x ∉ r.map f := fun q => by
        obtain ⟨y, hy, e⟩ := List.mem_map.mp q
        exact h (hf _ _ e ▸ hy)
      rw [if_neg h, if_neg h', dedup_map f hf r, List.map_cons]
def ssI (l : List Int) : List Int := srtI (dedup l)
theorem mem_ssI {l : List Int} {x : Int} : x ∈ ssI l ↔ x ∈ l := by
  unfold ssI
  rw [(perm_srtI _).mem_iff, mem_dedup]
theorem sset_ints {l : List Int} (h : l.length < 64) : sset (l.map .int) = some ((ssI l).map .int) := by
  show (kindOf (l.map .int)).bind (fun p => if p.1 < 3 ∧ (l.map PV.int).length < 64 then some ((sortBy leI (dedup p.2)).map (backK p.1)) else none) = _
  rw [kindOf_ints, Option.bind_some, if_pos ⟨show (0:Nat) < 3 from by decide, by rw [List.length_map]; exact h⟩]
  have e : dedup (l.map fun i => [i]) = (dedup l).map fun i => [i] := dedup_map _ (fun x y q => (List.cons.inj q).1) l
  have e2 : sortBy leI ((dedup l).map fun i => [i]) = (srtI (dedup l)).map fun i => [i] := by
    rw [← sort_map]
    unfold srtI
    rw [sort_congr (le' := fun a b => decide (a ≤ b)) _ fun x _ y _ => leI_one x y]
  simp only [e, e2, List.map_map]
  unfold ssI
  congr 1
theorem run_eq {n f : Nat} {vs : List Sl} {S : Sto} {d : CD} (h : D f = some d) (hl : vs.length = d.params) (ho : d.own = false := by rfl) : callN G D (n+1) f vs S = endR (exB G (callN G D n) d.body (vs.map share ++ List.replicate (d.slots - d.params) .un) S) := SR.run_eq h hl ho
theorem run_eqO {n f : Nat} {vs : List Sl} {S : Sto} {d : CD} (h : D f = some d) (hl : vs.length = d.params) (ho : d.own = true := by rfl) : callN G D (n+1) f vs S = endR (exB G (callN G D n) d.body (vs ++ List.replicate (d.slots - d.params) .un) S) := SR.run_eqO h hl ho
def rng (lo : Int) (n : Nat) : List Int := (List.range n).map fun (i : Nat) => lo + i
theorem range_rng {lo : Int} {n : Nat} : range lo n = (rng lo n).map .int := by
  unfold range rng
  rw [List.map_map]
  rfl
theorem mem_rng {lo x : Int} {n : Nat} : x ∈ rng lo n ↔ lo ≤ x ∧ x < lo + n := by
  unfold rng
  simp only [List.mem_map, List.mem_range]
  constructor
  · rintro ⟨i, h, rfl⟩
    omega
  · intro h
    exact ⟨(x - lo).toNat, by omega, by omega⟩
theorem item_ints {ns : List Int} {i : Int} (h0 : 0 ≤ i) (h1 : i < ns.length) : ∃ v : Int, item (.lst (ns.map .int)) (.int i) = some (.int v) := by
  have hk : i.toNat < ns.length := by omega
  refine ⟨ns[i.toNat], ?_⟩
  show ((if (0 : Int) ≤ i then (if i < ((ns.map PV.int).length : Nat) then some i.toNat else none) else _ : Option Nat).bind fun k => (ns.map PV.int)[k]?) = _
  rw [if_pos h0, if_pos (by rw [List.length_map]; exact h1), Option.bind_some, List.getElem?_map, List.getElem?_eq_getElem hk]
  rfl
theorem f8g {n : Nat} {S : Sto} {xs : List PV} {i : Int} (h0 : 0 ≤ i) (hd : datas xs = true) (hi : ∀ j : Int, 0 ≤ j → j < xs.length → ∃ v : Int, item (.lst xs) (.int j) = some (.int v)) : ∃ v : Int, callN G D (n+1) 8 [.sh (.lst xs), .sh (.int i)] S = .ok (.int v) .sh S := by
  rw [run_eq (d := d8) rfl rfl]
  by_cases h1 : i < xs.length
  · obtain ⟨v, hv⟩ := hi i h0 h1
    exact ⟨v, by simp [d8, h1, hv]⟩
  · cases he : xs.isEmpty with
    | true => exact ⟨0, by simp [d8, h1, hd, he]⟩
    | false =>
      have hp : 0 < xs.length := by
        cases xs with
        | nil => cases he
        | cons _ _ => exact Nat.succ_pos _
      have hl : (0 : Int) < xs.length := by omega
      have hl' : (xs.length : Int) ≠ 0 := by omega
      obtain ⟨v, hv⟩ := hi (i.fmod xs.length) (Int.fmod_nonneg h0 (Int.le_of_lt hl)) (Int.fmod_lt_of_pos _ hl)
      have m1 : ∀ z, op2 .mod z (.int i) (.int xs.length) = some (.int (i.fmod xs.length), .sh) := fun z => op2_mod hl'
      have m2 : ∀ z, op2 .mul z (.int v) (.int 31) = some (.int (v * 31), .sh) := fun z => op2_mul (.inr (by decide))
      exact ⟨v * 31 + i, by simp [d8, h1, hd, he, m1, m2, hv]⟩
theorem f8 {n : Nat} {S : Sto} {ns : List Int} {i : Int} (h0 : 0 ≤ i) : ∃ v : Int, callN G D (n+1) 8 [.sh (.lst (ns.map .int)), .sh (.int i)] S = .ok (.int v) .sh S :=
  f8g h0 (datas_ints ns) fun j a b => item_ints a (by rwa [List.length_map] at b)
theorem f9 {n : Nat} {S : Sto} {ns : List Int} {i many : Int} (h0 : 0 ≤ i) (hm : 0 < many) : ∃ v : Int, (0 ≤ v ∧ v < many) ∧ callN G D (n+2) 9 [.sh (.lst (ns.map .int)), .sh (.int i), .sh (.int many)] S = .ok (.int v) .sh S := by
  rw [run_eq (d := d9) rfl rfl]
  obtain ⟨c, hc⟩ := f8 (n := n) (S := S) (ns := ns) h0
  have m1 : ∀ z, op2 .mul z (.int 6151) (.int (i + 1)) = some (.int (6151 * (i + 1)), .sh) := fun z => op2_mul (.inl (by decide))
  have m2 : ∀ z p, op2 .mul z (.int p) (.int 40692) = some (.int (p * 40692), .sh) := fun z p => op2_mul (.inr (by decide))
  have m3 : ∀ z p, op2 .mod z (.int p) (.int 2147483399) = some (.int (p.fmod 2147483399), .sh) := fun z p => op2_mod (by decide)
  have b1 := Int.fmod_nonneg_of_pos ((c + 6151 * (i + 1)) * 40692) (show (0:Int) < 2147483399 by decide)
  have b2 := Int.fmod_lt_of_pos ((c + 6151 * (i + 1)) * 40692) (show (0:Int) < 2147483399 by decide)
  generalize hq : ((c + 6151 * (i + 1)) * 40692).fmod 2147483399 = q at *
  have m4 : ∀ z, op2 .mul z (.int q) (.int q) = some (.int (q * q), .sh) := fun z => op2_mul (.inl (by unfold two64; omega))
  have m5 : ∀ z, op2 .fdiv z (.int q) (.int 31) = some (.int (q.fdiv 31), .sh) := fun z => op2_fdiv (by decide)
  have m6 : ∀ z p, op2 .mod z (.int p) (.int 2147483629) = some (.int (p.fmod 2147483629), .sh) := fun z p => op2_mod (by decide)
  have m7 : ∀ z p, op2 .mod z (.int p) (.int many) = some (.int (p.fmod many), .sh) := fun z p => op2_mod (by omega)
  refine ⟨((q * q + q.fdiv 31).fmod 2147483629).fmod many, ⟨Int.fmod_nonneg_of_pos _ hm, Int.fmod_lt_of_pos _ hm⟩, ?_⟩
  simp [d9, hc, m1, m2, m3, hq, m4, m5, m6, m7, setS]
end PR

set_option maxRecDepth 100000
set_option linter.unusedSimpArgs false
namespace PR
open SR
def rk (k : Nat) (a b : Int) : Int := match k with
  | 0 => a + b
  | 1 => a - b
  | 2 => a * b
  | 3 => a.fdiv b
  | 4 => if a < b then 1 else 0
  | 5 => if a = b then 1 else 0
  | 6 => if b < a then b else a
  | _ => if b > a then b else a
def wd (k : Nat) : List Nat := match k with
  | 0 => [97, 100, 100] | 1 => [115, 117, 98] | 2 => [109, 117, 108] | 3 => [113, 117, 111] | 4 => [108, 101, 115, 115] | 5 => [115, 97, 109, 101] | 6 => [109, 105, 110] | _ => [109, 97, 120]
theorem f0 {n : Nat} {S : Sto} {a b : Int} (ha : -1000000000 < a ∧ a < 1000000000) (hb : -1000000000 < b ∧ b < 1000000000) : ∀ k, k < 8 → (k = 3 → b ≠ 0) → callN G D (n+1) 0 [.sh (.str (wd k)), .sh (.int a), .sh (.int b)] S = .ok (.int (rk k a b)) .sh S
  | 0, _, _ => rfl
  | 1, _, _ => rfl
  | 2, _, _ => by
    have h : (-two64 < a ∧ a < two64) ∨ (-two64 < b ∧ b < two64) := .inl (by unfold two64; omega)
    rw [run_eq (d := d0) rfl rfl]
    simp [d0, op2_mul h, rk, wd, simpE]
  | 3, _, z => by
    have h : b ≠ 0 ∧ b.natAbs < 1073741824 := ⟨z rfl, by omega⟩
    rw [run_eq (d := d0) rfl rfl]
    simp [d0, op2_fdiv h, rk, wd, simpE]
  | 4, _, _ => by
    show Res.ok (PV.int (if decide (a < b) = true then 1 else 0)) .sh S = _
    simp [rk]
  | 5, _, _ => by
    show Res.ok (PV.int (if (a == b) = true then 1 else 0)) .sh S = _
    simp [rk]
  | 6, _, _ => rfl
  | 7, _, _ => rfl
theorem f10 {n : Nat} {S : Sto} {a b : Int} (ha : -1000000000 < a ∧ a < 1000000000) (hb : -1000000000 < b ∧ b < 1000000000) : ∀ k, k < 8 → (k = 3 → b ≠ 0) → callN G D (n+1) 10 [.sh (.str (wd k)), .sh (.int a), .sh (.int b)] S = .ok (.int (rk k a b)) .sh S
  | 0, _, _ => rfl
  | 1, _, _ => rfl
  | 2, _, _ => by
    have h : (-two64 < a ∧ a < two64) ∨ (-two64 < b ∧ b < two64) := .inl (by unfold two64; omega)
    rw [run_eq (d := d10) rfl rfl]
    simp [d10, op2_mul h, rk, wd, simpE]
  | 3, _, z => by
    have h : b ≠ 0 ∧ b.natAbs < 1073741824 := ⟨z rfl, by omega⟩
    rw [run_eq (d := d10) rfl rfl]
    simp [d10, op2_fdiv h, rk, wd, simpE]
  | 4, _, _ => by
    rw [run_eq (d := d10) rfl rfl]
    by_cases h : a < b <;> simp [d10, h, rk, wd]
  | 5, _, _ => by
    rw [run_eq (d := d10) rfl rfl]
    by_cases h : a = b <;> simp [d10, h, rk, wd]
  | 6, _, _ => by
    rw [run_eq (d := d10) rfl rfl]
    by_cases h : a ≤ b
    · have h' : ¬ b < a := by omega
      simp [d10, wd, h, h', rk, simpE, bi, sorted_two]
    · have h' : b < a := by omega
      simp [d10, wd, h, h', rk, simpE, bi, sorted_two]
  | 7, _, _ => by
    rw [run_eq (d := d10) rfl rfl]
    by_cases h : a ≤ b
    · by_cases e : a = b
      · subst e
        simp [d10, wd, rk, simpE, bi, sorted_two]
      · have h' : a < b := by omega
        simp [d10, wd, h, h', rk, simpE, bi, sorted_two]
    · have h' : ¬ a < b := by omega
      simp [d10, wd, h, h', rk, simpE, bi, sorted_two]
def mn4 (x y z w : Int) : Int := (minI [x, y, z, w]).getD 0
def mx4 (x y z w : Int) : Int := (maxI [x, y, z, w]).getD 0
theorem f4 {n : Nat} {S : Sto} {w : List Nat} {a b c d : Int} {f : Int → Int → Int} (h1 : callN G D (n+1) 0 [.sh (.str w), .sh (.int a), .sh (.int c)] S = .ok (.int (f a c)) .sh S) (h2 : callN G D (n+1) 0 [.sh (.str w), .sh (.int a), .sh (.int d)] S = .ok (.int (f a d)) .sh S)
    (h3 : callN G D (n+1) 0 [.sh (.str w), .sh (.int b), .sh (.int c)] S = .ok (.int (f b c)) .sh S) (h4 : callN G D (n+1) 0 [.sh (.str w), .sh (.int b), .sh (.int d)] S = .ok (.int (f b d)) .sh S) :
    callN G D (n+2) 4 [.sh (.str w), .sh (.tup [.int a, .int b]), .sh (.tup [.int c, .int d])] S = .ok (.tup [.int (mn4 (f a c) (f a d) (f b c) (f b d)), .int (mx4 (f a c) (f a d) (f b c) (f b d))]) .sh S := by
  rw [run_eq (d := d4) rfl rfl]
  simp [d4, b4_0, forT_cons, forT_nil, setS, lcI, lcT_eq, h1, h2, h3, h4, lim, bi, intsOf, minI, maxI, mn4, mx4]
def toP : Option (Int × Int) → PV
  | none => .non
  | some (a, b) => .tup [.int a, .int b]
@[simp] theorem toP_none : toP none = .non := rfl
@[simp] theorem toP_some {p : Int × Int} : toP (some p) = .tup [.int p.1, .int p.2] := rfl
def metO (a b c d : Int) : Option (Int × Int) := if (if c > a then c else a) > (if d < b then d else b) then none else some ((if c > a then c else a), (if d < b then d else b))
theorem f2 {n : Nat} {S : Sto} {a b c d : Int} : callN G D (n+1) 2 [.sh (.tup [.int a, .int b]), .sh (.tup [.int c, .int d])] S = .ok (toP (metO a b c d)) .sh S := by
  rw [run_eq (d := d2) rfl rfl]
  by_cases h : (if c > a then c else a) > (if d < b then d else b) <;> simp [d2, metO, h]
theorem f2l {n : Nat} {S : Sto} {x : PV} : callN G D (n+1) 2 [.sh .non, .sh x] S = .ok .non .sh S := by
  rw [run_eq (d := d2) rfl rfl]
  simp [d2]
theorem f2r {n : Nat} {S : Sto} {x : Option (Int × Int)} : callN G D (n+1) 2 [.sh (toP x), .sh .non] S = .ok .non .sh S := by
  rw [run_eq (d := d2) rfl rfl]
  cases x <;> simp [d2]
def joinO : Option (Int × Int) → Option (Int × Int) → Option (Int × Int)
  | none, y => y
  | x, none => x
  | some (a, b), some (c, d) => some ((if c < a then c else a), (if d > b then d else b))
theorem f1o {n : Nat} {S : Sto} {x y : Option (Int × Int)} : callN G D (n+1) 1 [.sh (toP x), .sh (toP y)] S = .ok (toP (joinO x y)) .sh S := by
  rw [run_eq (d := d1) rfl rfl]
  cases x <;> cases y <;> simp [d1, joinO]
def hullO (l : List Int) : Option (Int × Int) := match minI l, maxI l with
  | some a, some b => some (a, b)
  | _, _ => none
theorem minI_cons (x : Int) (l : List Int) : ∃ m, minI (x :: l) = some m := by
  unfold minI
  cases minI l <;> exact ⟨_, rfl⟩
theorem maxI_cons (x : Int) (l : List Int) : ∃ m, maxI (x :: l) = some m := by
  unfold maxI
  cases maxI l <;> exact ⟨_, rfl⟩
def bz (b : Bool) : Int := if b then 1 else 0
def askV (k : Nat) (a b c d : Int) : Option (Int × Int) := if k = 4 then some (bz (decide (b < c)), bz (decide (a < d))) else some (bz (decide (a = b) && (decide (a = c) && decide (b = d))), bz (metO a b c d).isSome)
theorem f6 {n : Nat} {S : Sto} {a b c d : Int} : ∀ k, k = 4 ∨ k = 5 → callN G D (n+2) 6 [.sh (.str (wd k)), .sh (.tup [.int a, .int b]), .sh (.tup [.int c, .int d])] S = .ok (toP (askV k a b c d)) .sh S := by
  rintro k (rfl | rfl)
  · rw [run_eq (d := d6) rfl rfl]
    simp [d6, wd, askV, bz]
  · rw [run_eq (d := d6) rfl rfl]
    by_cases e : a = b
    · subst e
      cases h : metO a a c d <;> simp [d6, wd, askV, bz, f2, h, setS, andR_b]
    · cases h : metO a b c d <;> simp [d6, wd, askV, bz, f2, h, setS, andR_b, e]
def beV (k : Nat) (a b c d : Int) : Int × Int := (mn4 (rk k a c) (rk k a d) (rk k b c) (rk k b d), mx4 (rk k a c) (rk k a d) (rk k b c) (rk k b d))
theorem f4k {n : Nat} {S : Sto} {a b c d : Int} {k : Nat} (hk : k < 8) (ha : -1000000000 < a ∧ a < 1000000000) (hb : -1000000000 < b ∧ b < 1000000000) (hc : -1000000000 < c ∧ c < 1000000000) (hd : -1000000000 < d ∧ d < 1000000000) (z : k = 3 → c ≠ 0 ∧ d ≠ 0) :
    callN G D (n+2) 4 [.sh (.str (wd k)), .sh (.tup [.int a, .int b]), .sh (.tup [.int c, .int d])] S = .ok (toP (some (beV k a b c d))) .sh S :=
  f4 (f := rk k) (f0 ha hc k hk fun e => (z e).1) (f0 ha hd k hk fun e => (z e).2) (f0 hb hc k hk fun e => (z e).1) (f0 hb hd k hk fun e => (z e).2)
def divO (a b c d : Int) : Option (Int × Int) :=
  joinO (joinO none ((metO c d (if (-1) < c then -1 else c) (-1)).map fun p => beV 3 a b p.1 p.2)) ((metO c d 1 (if 1 > d then 1 else d)).map fun p => beV 3 a b p.1 p.2)
theorem metO_some {a b c d : Int} {p : Int × Int} (h : metO a b c d = some p) : p.1 = (if c > a then c else a) ∧ p.2 = (if d < b then d else b) ∧ p.1 ≤ p.2 := by
  unfold metO at h
  by_cases hh : (if c > a then c else a) > (if d < b then d else b)
  · rw [if_pos hh] at h
    cases h
  · rw [if_neg hh] at h
    obtain rfl := Option.some.inj h
    exact ⟨rfl, rfl, Int.not_lt.mp hh⟩
theorem f5 {n : Nat} {S : Sto} {a b c d : Int} (ha : -1000000000 < a ∧ a < 1000000000) (hb : -1000000000 < b ∧ b < 1000000000) (hc : -1000000000 < c ∧ c < 1000000000) (hd : -1000000000 < d ∧ d < 1000000000) : callN G D (n+3) 5 [.sh (.tup [.int a, .int b]), .sh (.tup [.int c, .int d])] S = .ok (toP (divO a b c d)) .sh S := by
  rw [run_eq (d := d5) rfl rfl]
  have g1 : ∀ p, metO c d (if (-1) < c then -1 else c) (-1) = some p → (-1000000000 < p.1 ∧ p.1 < 1000000000) ∧ (-1000000000 < p.2 ∧ p.2 < 1000000000) ∧ p.1 ≠ 0 ∧ p.2 ≠ 0 := by
    intro p h
    obtain ⟨e1, e2, e3⟩ := metO_some h
    omega
  have g2 : ∀ p, metO c d 1 (if 1 > d then 1 else d) = some p → (-1000000000 < p.1 ∧ p.1 < 1000000000) ∧ (-1000000000 < p.2 ∧ p.2 < 1000000000) ∧ p.1 ≠ 0 ∧ p.2 ≠ 0 := by
    intro p h
    obtain ⟨e1, e2, e3⟩ := metO_some h
    omega
  have w3 : ([113, 117, 111] : List Nat) = wd 3 := rfl
  have q1 : ∀ p : Int × Int, (-1000000000 < p.1 ∧ p.1 < 1000000000) ∧ (-1000000000 < p.2 ∧ p.2 < 1000000000) ∧ p.1 ≠ 0 ∧ p.2 ≠ 0 → callN G D (n+2) 4 [.sh (.str [113, 117, 111]), .sh (.tup [.int a, .int b]), .sh (.tup [.int p.1, .int p.2])] S = .ok (.tup [.int (beV 3 a b p.1 p.2).1, .int (beV 3 a b p.1 p.2).2]) .sh S := fun p h => by
    have q := f4k (n := n) (S := S) (k := 3) (by decide) ha hb h.1 h.2.1 fun _ => h.2.2
    simpa only [wd, toP_some] using q
  have j1 : ∀ x y : Int × Int, callN G D (n+2) 1 [.sh (.tup [.int x.1, .int x.2]), .sh (.tup [.int y.1, .int y.2])] S = .ok (toP (joinO (some x) (some y))) .sh S := fun x y => f1o (x := some x) (y := some y)
  have j0 : ∀ y : Int × Int, callN G D (n+2) 1 [.sh .non, .sh (.tup [.int y.1, .int y.2])] S = .ok (.tup [.int y.1, .int y.2]) .sh S := fun y => f1o (x := none) (y := some y)
  cases e1 : metO c d (if (-1) < c then -1 else c) (-1) with
  | none => cases e2 : metO c d 1 (if 1 > d then 1 else d) with
    | none => simp [d5, b5_0, forT_cons, forT_nil, setS, f2, e1, e2, divO, joinO]
    | some p2 => simp [d5, b5_0, forT_cons, forT_nil, setS, f2, e1, e2, divO, joinO, q1 p2 (g2 p2 e2), j0]
  | some p1 => cases e2 : metO c d 1 (if 1 > d then 1 else d) with
    | none => simp [d5, b5_0, forT_cons, forT_nil, setS, f2, e1, e2, divO, joinO, q1 p1 (g1 p1 e1), j0]
    | some p2 => simp [d5, b5_0, forT_cons, forT_nil, setS, f2, e1, e2, divO, q1 p2 (g2 p2 e2), q1 p1 (g1 p1 e1), j0, j1, joinO]
def stO (k : Nat) (a b c d : Int) : Option (Int × Int) := if k = 3 then divO a b c d else if k = 4 ∨ k = 5 then askV k a b c d else some (beV k a b c d)
theorem f7 {n : Nat} {S : Sto} {a b c d : Int} (ha : -1000000000 < a ∧ a < 1000000000) (hb : -1000000000 < b ∧ b < 1000000000) (hc : -1000000000 < c ∧ c < 1000000000) (hd : -1000000000 < d ∧ d < 1000000000) : ∀ k, k < 8 → callN G D (n+4) 7 [.sh (.str (wd k)), .sh (.tup [.int a, .int b]), .sh (.tup [.int c, .int d])] S = .ok (toP (stO k a b c d)) .sh S := by
  intro k hk
  rw [run_eq (d := d7) rfl rfl]
  have h5 := f5 (n := n) (S := S) ha hb hc hd
  have h6 := f6 (n := n + 1) (S := S) (a := a) (b := b) (c := c) (d := d)
  have h4 := fun z => f4k (n := n + 1) (S := S) hk ha hb hc hd z
  match k, hk with
  | 0, _ => have h := h4 (fun z => absurd z (by decide)); simp [wd] at h; simp [d7, wd, stO, h]
  | 1, _ => have h := h4 (fun z => absurd z (by decide)); simp [wd] at h; simp [d7, wd, stO, h]
  | 2, _ => have h := h4 (fun z => absurd z (by decide)); simp [wd] at h; simp [d7, wd, stO, h]
  | 3, _ => simp [d7, wd, stO, h5]
  | 4, _ => have h := h6 4 (.inl rfl); simp [wd] at h; simp [d7, wd, stO, h]
  | 5, _ => have h := h6 5 (.inr rfl); simp [wd] at h; simp [d7, wd, stO, h]
  | 6, _ => have h := h4 (fun z => absurd z (by decide)); simp [wd] at h; simp [d7, wd, stO, h]
  | 7, _ => have h := h4 (fun z => absurd z (by decide)); simp [wd] at h; simp [d7, wd, stO, h]
theorem f7l {n : Nat} {S : Sto} {w : List Nat} {x : PV} : callN G D (n+1) 7 [.sh (.str w), .sh .non, .sh x] S = .ok .non .sh S := by
  rw [run_eq (d := d7) rfl rfl]
  simp [d7]
theorem f7r {n : Nat} {S : Sto} {w : List Nat} {x : Option (Int × Int)} : callN G D (n+1) 7 [.sh (.str w), .sh (toP x), .sh .non] S = .ok .non .sh S := by
  rw [run_eq (d := d7) rfl rfl]
  cases x <;> simp [d7]
def fit (k : Nat) (l : List Int) : List Int := l.filter fun y => decide (k ≠ 3) || decide (y ≠ 0)
def worths (k : Nat) (xs ys : List Int) : List Int := xs.flatMap fun a => (fit k ys).map (rk k a)
theorem minI_is {m : Int} : ∀ {l : List Int}, m ∈ l → (∀ x ∈ l, m ≤ x) → minI l = some m
  | [], h, _ => by cases h
  | x :: r, h, k => by
    unfold minI
    cases e : minI r with
    | none =>
      cases r with
      | nil => simp at h; simp [h]
      | cons y r => obtain ⟨z, hz⟩ := minI_cons y r; rw [hz] at e; cases e
    | some q =>
      have hq : q ∈ r ∧ ∀ y ∈ r, q ≤ y := by
        clear h k
        induction r generalizing q with
        | nil => cases e
        | cons y r ih =>
          unfold minI at e
          cases e2 : minI r with
          | none =>
            rw [e2] at e
            cases r with
            | nil => cases e; simp
            | cons y2 r => obtain ⟨z, hz⟩ := minI_cons y2 r; rw [hz] at e2; cases e2
          | some z =>
            rw [e2] at e
            obtain ⟨h1, h2⟩ := ih z e2
            simp only [Option.some.injEq] at e
            split at e
            · subst e
              refine ⟨List.mem_cons_of_mem _ h1, fun t ht => ?_⟩
              rcases List.mem_cons.mp ht with rfl | ht
              · omega
              · exact h2 t ht
            · subst e
              refine ⟨List.mem_cons_self, fun t ht => ?_⟩
              rcases List.mem_cons.mp ht with rfl | ht
              · omega
              · have := h2 t ht; omega
      have k1 := k x List.mem_cons_self
      have k2 := k q (List.mem_cons_of_mem _ hq.1)
      rcases List.mem_cons.mp h with rfl | h
      · by_cases c : q < m
        · omega
        · simp [c]
      · have := hq.2 m h
        have e : q = m := by omega
        subst e
        by_cases c : q < x
        · simp [c]
        · have : q = x := by omega
          simp [this]
theorem maxI_neg : ∀ l : List Int, maxI l = (minI (l.map fun x => -x)).map fun x => -x
  | [] => rfl
  | x :: r => by
    simp only [maxI, List.map_cons, minI, maxI_neg r]
    cases minI (r.map fun x => -x) with
    | none => simp
    | some m =>
      simp only [Option.map_some]
      by_cases h : m < -x
      · have h' : x < -m := by omega
        simp [h, h']
      · have h' : ¬ x < -m := by omega
        simp [h, h']
theorem maxI_is {m : Int} {l : List Int} (h : m ∈ l) (k : ∀ x ∈ l, x ≤ m) : maxI l = some m := by
  rw [maxI_neg, minI_is (m := -m) (List.mem_map.mpr ⟨m, h, rfl⟩)]
  · simp
  · intro x hx
    obtain ⟨y, hy, rfl⟩ := List.mem_map.mp hx
    have := k y hy
    omega
theorem mn4_of (x y z w : Int) : (mn4 x y z w = x ∨ mn4 x y z w = y ∨ mn4 x y z w = z ∨ mn4 x y z w = w) ∧ mn4 x y z w ≤ x ∧ mn4 x y z w ≤ y ∧ mn4 x y z w ≤ z ∧ mn4 x y z w ≤ w := by
  simp only [mn4, minI, Option.getD_some]
  omega
theorem mx4_of (x y z w : Int) : (mx4 x y z w = x ∨ mx4 x y z w = y ∨ mx4 x y z w = z ∨ mx4 x y z w = w) ∧ x ≤ mx4 x y z w ∧ y ≤ mx4 x y z w ∧ z ≤ mx4 x y z w ∧ w ≤ mx4 x y z w := by
  simp only [mx4, maxI, Option.getD_some]
  omega
theorem mem_worths {k : Nat} {xs ys : List Int} {v : Int} (hk : k ≠ 3) : v ∈ worths k xs ys ↔ ∃ x ∈ xs, ∃ y ∈ ys, rk k x y = v := by
  unfold worths fit
  simp [hk, List.mem_flatMap]
theorem hull_be {k : Nat} {a c : Int} {n m : Nat} (hk : k ≠ 3)
    (bt : ∀ x y, a ≤ x → x ≤ a + n → c ≤ y → y ≤ c + m → (beV k a (a + n) c (c + m)).1 ≤ rk k x y ∧ rk k x y ≤ (beV k a (a + n) c (c + m)).2) : hullO (worths k (rng a (n + 1)) (rng c (m + 1))) = some (beV k a (a + n) c (c + m)) := by
  have ma : a ∈ rng a (n + 1) := mem_rng.mpr (by omega)
  have mb : a + n ∈ rng a (n + 1) := mem_rng.mpr (by omega)
  have mc : c ∈ rng c (m + 1) := mem_rng.mpr (by omega)
  have md : c + m ∈ rng c (m + 1) := mem_rng.mpr (by omega)
  have h1 : minI (worths k (rng a (n + 1)) (rng c (m + 1))) = some (beV k a (a + n) c (c + m)).1 := by
    refine minI_is ?_ ?_
    · rw [mem_worths hk]
      rcases (mn4_of (rk k a c) (rk k a (c + m)) (rk k (a + n) c) (rk k (a + n) (c + m))).1 with e | e | e | e
      · exact ⟨_, ma, _, mc, e.symm⟩
      · exact ⟨_, ma, _, md, e.symm⟩
      · exact ⟨_, mb, _, mc, e.symm⟩
      · exact ⟨_, mb, _, md, e.symm⟩
    · intro v hv
      obtain ⟨x, hx, y, hy, rfl⟩ := (mem_worths hk).mp hv
      have hx := mem_rng.mp hx
      have hy := mem_rng.mp hy
      exact (bt x y hx.1 (by omega) hy.1 (by omega)).1
  have h2 : maxI (worths k (rng a (n + 1)) (rng c (m + 1))) = some (beV k a (a + n) c (c + m)).2 := by
    refine maxI_is ?_ ?_
    · rw [mem_worths hk]
      rcases (mx4_of (rk k a c) (rk k a (c + m)) (rk k (a + n) c) (rk k (a + n) (c + m))).1 with e | e | e | e
      · exact ⟨_, ma, _, mc, e.symm⟩
      · exact ⟨_, ma, _, md, e.symm⟩
      · exact ⟨_, mb, _, mc, e.symm⟩
      · exact ⟨_, mb, _, md, e.symm⟩
    · intro v hv
      obtain ⟨x, hx, y, hy, rfl⟩ := (mem_worths hk).mp hv
      have hx := mem_rng.mp hx
      have hy := mem_rng.mp hy
      exact (bt x y hx.1 (by omega) hy.1 (by omega)).2
  unfold hullO
  rw [h1, h2]
theorem mul_bt {a b x y : Int} (h1 : a ≤ x) (h2 : x ≤ b) : (a * y ≤ x * y ∧ x * y ≤ b * y) ∨ (b * y ≤ x * y ∧ x * y ≤ a * y) := by
  by_cases h : 0 ≤ y
  · exact .inl ⟨Int.mul_le_mul_of_nonneg_right h1 h, Int.mul_le_mul_of_nonneg_right h2 h⟩
  · exact .inr ⟨Int.mul_le_mul_of_nonpos_right h2 (by omega), Int.mul_le_mul_of_nonpos_right h1 (by omega)⟩
theorem bt_all {k : Nat} {a b c d : Int} (hab : a ≤ b) (hcd : c ≤ d) (hk : k < 8) (h3 : k ≠ 3) (h5 : k ≠ 5) : ∀ x y, a ≤ x → x ≤ b → c ≤ y → y ≤ d → (beV k a b c d).1 ≤ rk k x y ∧ rk k x y ≤ (beV k a b c d).2 := by
  intro x y hx1 hx2 hy1 hy2
  have hm := (mn4_of (rk k a c) (rk k a d) (rk k b c) (rk k b d)).2
  have hM := (mx4_of (rk k a c) (rk k a d) (rk k b c) (rk k b d)).2
  have e1 : (beV k a b c d).1 = mn4 (rk k a c) (rk k a d) (rk k b c) (rk k b d) := rfl
  have e2 : (beV k a b c d).2 = mx4 (rk k a c) (rk k a d) (rk k b c) (rk k b d) := rfl
  rw [e1, e2]
  generalize mn4 (rk k a c) (rk k a d) (rk k b c) (rk k b d) = mn at *
  generalize mx4 (rk k a c) (rk k a d) (rk k b c) (rk k b d) = mx at *
  match k, hk, h3, h5 with
  | 0, _, _, _ => simp only [rk] at *; omega
  | 1, _, _, _ => simp only [rk] at *; omega
  | 2, _, _, _ =>
    simp only [rk] at *
    have q1 := mul_bt (y := y) hx1 hx2
    have q2 := mul_bt (y := a) hy1 hy2
    have q3 := mul_bt (y := b) hy1 hy2
    rw [Int.mul_comm c a, Int.mul_comm y a, Int.mul_comm d a] at q2
    rw [Int.mul_comm c b, Int.mul_comm y b, Int.mul_comm d b] at q3
    omega
  | 4, _, _, _ => simp only [rk] at *; omega
  | 6, _, _, _ => simp only [rk] at *; omega
  | 7, _, _, _ => simp only [rk] at *; omega
end PR

set_option maxRecDepth 100000
set_option linter.unusedSimpArgs false
namespace PR
open SR
/-! ### loops and lists made by rows of a Lean type -/
section
variable {β : Type} {e : β → PV}
theorem forT_pre {t : Tg} {body : Env → Sto → SRes} {R : List β → Env} {S : List β → Sto} {xs : List β}
    (h : ∀ pre x post, xs = pre ++ x :: post → forO body (S pre) (bindG (S pre) t (e x) (R pre)) = .nx (R (pre ++ [x])) (S (pre ++ [x]))) : forT t body (xs.map e) (R []) (S []) = .nx (R xs) (S xs) := by
  have : ∀ post pre, xs = pre ++ post → forT t body (post.map e) (R pre) (S pre) = .nx (R xs) (S xs) := by
    intro post
    induction post with
    | nil =>
      intro pre q
      rw [List.append_nil] at q
      rw [← q]
      rfl
    | cons x post ih =>
      intro pre q
      rw [List.map_cons, forT_cons, h pre x post q, SRes.loop_nx]
      exact ih (pre ++ [x]) (by rw [q]; simp)
  exact this xs [] rfl
/-- a turn may go on by continue, too -/
theorem forT_preC {t : Tg} {body : Env → Sto → SRes} {R : List β → Env} {S : List β → Sto} {xs : List β}
    (h : ∀ pre x post, xs = pre ++ x :: post → forO body (S pre) (bindG (S pre) t (e x) (R pre)) = .nx (R (pre ++ [x])) (S (pre ++ [x])) ∨ forO body (S pre) (bindG (S pre) t (e x) (R pre)) = .cnt (R (pre ++ [x])) (S (pre ++ [x]))) : forT t body (xs.map e) (R []) (S []) = .nx (R xs) (S xs) := by
  have : ∀ post pre, xs = pre ++ post → forT t body (post.map e) (R pre) (S pre) = .nx (R xs) (S xs) := by
    intro post
    induction post with
    | nil =>
      intro pre q
      rw [List.append_nil] at q
      rw [← q]
      rfl
    | cons x post ih =>
      intro pre q
      rw [List.map_cons, forT_cons]
      rcases h pre x post q with h | h
      · rw [h, SRes.loop_nx]
        exact ih (pre ++ [x]) (by rw [q]; simp)
      · rw [h, SRes.loop_cnt]
        exact ih (pre ++ [x]) (by rw [q]; simp)
  exact this xs [] rfl
/-- a loop that leaves no trace -/
theorem forT_same {t : Tg} {body : Env → Sto → SRes} {r : Env} {S : Sto} {xs : List β}
    (h : ∀ x ∈ xs, forO body S (bindG S t (e x) r) = .nx r S ∨ forO body S (bindG S t (e x) r) = .cnt r S) : forT t body (xs.map e) r S = .nx r S :=
  forT_preC (R := fun _ => r) (S := fun _ => S) fun pre x post q => h x (by rw [q]; simp)
/-- a loop that looks for one row -/
theorem forT_find {t : Tg} {body : Env → Sto → SRes} {r : Env} {S : Sto} {xs : List β} {p : β → Bool} {v : PV} {m : Md}
    (h : ∀ x ∈ xs, forO body S (bindG S t (e x) r) = if p x then .ret v m S else .nx r S) : forT t body (xs.map e) r S = if xs.any p then .ret v m S else .nx r S := by
  induction xs with
  | nil => rfl
  | cons x xs ih =>
    rw [List.map_cons, forT_cons, h x List.mem_cons_self]
    cases q : p x with
    | true => simp [q]
    | false =>
      rw [if_neg (by simp), SRes.loop_nx, ih fun y hy => h y (List.mem_cons_of_mem _ hy)]
      simp [q]
/-- a loop with an invariant -/
theorem forT_inv {t : Tg} {body : Env → Sto → SRes} {I : List β → Env → Sto → Prop} {xs : List β} {r : Env} {S : Sto} (h0 : I [] r S)
    (h : ∀ pre x post r S, xs = pre ++ x :: post → I pre r S → ∃ r1 S1, forO body S (bindG S t (e x) r) = .nx r1 S1 ∧ I (pre ++ [x]) r1 S1) : ∃ r1 S1, forT t body (xs.map e) r S = .nx r1 S1 ∧ I xs r1 S1 := by
  have : ∀ post pre r S, xs = pre ++ post → I pre r S → ∃ r1 S1, forT t body (post.map e) r S = .nx r1 S1 ∧ I xs r1 S1 := by
    intro post
    induction post with
    | nil =>
      intro pre r S q i
      rw [List.append_nil] at q
      rw [← q] at i
      exact ⟨r, S, rfl, i⟩
    | cons x post ih =>
      intro pre r S q i
      obtain ⟨r1, S1, e1, i1⟩ := h pre x post r S q i
      rw [List.map_cons, forT_cons, e1, SRes.loop_nx]
      exact ih (pre ++ [x]) r1 S1 (by rw [q]; simp) i1
  exact this xs [] r S rfl h0
theorem lcI_gf {f : PV → Sto → LRes} {p : β → Bool} {h : β → PV} {S : Sto} : ∀ (xs : List β) (acc : List PV), (∀ x ∈ xs, f (e x) S = if p x then .one (h x) S else .skip S) → lcI f (xs.map e) acc S = .ok (.lst (acc ++ (xs.filter p).map h)) .own S
  | [], acc, _ => by simp [lcI]
  | x :: r, acc, k => by
    rw [List.map_cons, lcI, k x List.mem_cons_self]
    cases c : p x with
    | true =>
      rw [if_pos rfl]
      simp only
      rw [lcI_gf r _ fun y hy => k y (List.mem_cons_of_mem _ hy)]
      simp [c]
    | false =>
      rw [if_neg (by simp)]
      simp only
      rw [lcI_gf r _ fun y hy => k y (List.mem_cons_of_mem _ hy)]
      simp [c]
theorem lcI_f {f : PV → Sto → LRes} {p : β → Bool} {h : β → PV} {S : Sto} {xs : List β} (k : ∀ x ∈ xs, f (e x) S = if p x then .one (h x) S else .skip S) : lcI f (xs.map e) [] S = .ok (.lst ((xs.filter p).map h)) .own S := by
  rw [lcI_gf xs [] k]
  rfl
theorem lcI_m {f : PV → Sto → LRes} {h : β → PV} {S : Sto} {xs : List β} (k : ∀ x ∈ xs, f (e x) S = .one (h x) S) : lcI f (xs.map e) [] S = .ok (.lst (xs.map h)) .own S := by
  rw [lcI_gf (p := fun _ => true) xs [] fun x hx => by rw [k x hx, if_pos rfl]]
  rw [List.filter_eq_self.mpr fun _ _ => rfl]
  rfl
end
theorem seq_to {G : Prg} {Φ : Phi} {c : CS} {b : CSs} {r r1 : Env} {S S1 : Sto} {R : SRes} (h : exS G Φ c r S = .nx r1 S1) (h2 : exB G Φ b r1 S1 = R) : exB G Φ (.cons c b) r S = R := by
  rw [exB_cons, h]
  exact h2
theorem cnt_to {G : Prg} {Φ : Phi} {c : CS} {b : CSs} {r r1 : Env} {S S1 : Sto} (h : exS G Φ c r S = .cnt r1 S1) : exB G Φ (.cons c b) r S = .cnt r1 S1 := by
  rw [exB_cons, h]
  rfl
theorem ret_to {G : Prg} {Φ : Phi} {c : CS} {b : CSs} {r : Env} {S S1 : Sto} {v : PV} {m : Md} (h : exS G Φ c r S = .ret v m S1) : exB G Φ (.cons c b) r S = .ret v m S1 := by
  rw [exB_cons, h]
  rfl
theorem ex_to {G : Prg} {Φ : Phi} {c : CS} {b : CSs} {r r1 : Env} {S S1 : Sto} {P : Env → Sto → Prop} (h : exS G Φ c r S = .nx r1 S1) (h2 : ∃ r2 S2, exB G Φ b r1 S1 = .nx r2 S2 ∧ P r2 S2) : ∃ r2 S2, exB G Φ (.cons c b) r S = .nx r2 S2 ∧ P r2 S2 := by
  obtain ⟨r2, S2, e, p⟩ := h2
  exact ⟨r2, S2, seq_to h e, p⟩
theorem ife_t {G : Prg} {Φ : Phi} {t : CT} {a b : CSs} {r : Env} {S S1 : Sto} {R : SRes} (h : evT G Φ t r S = .ok true S1) (h2 : exB G Φ a r S1 = R) : exS G Φ (.ife t a b) r S = R := by
  rw [exS_ife, h]
  exact h2
theorem ife_f {G : Prg} {Φ : Phi} {t : CT} {a b : CSs} {r : Env} {S S1 : Sto} {R : SRes} (h : evT G Φ t r S = .ok false S1) (h2 : exB G Φ b r S1 = R) : exS G Φ (.ife t a b) r S = R := by
  rw [exS_ife, h]
  exact h2
theorem share_share : ∀ s : Sl, share (share s) = share s
  | .un => rfl
  | .sh _ => rfl
  | .own _ => rfl
/-- what is handed in is held as any other -/
theorem callN_share {G : Prg} {D : Nat → Option CD} {n f : Nat} {vs : List Sl} {S : Sto} (ho : (match D f with | some d => d.own | none => false) = false := by rfl) : callN G D n f (vs.map share) S = callN G D n f vs S := by
  have e : (vs.map share).map share = vs.map share := by
    rw [List.map_map]
    exact List.map_congr_left fun x _ => share_share x
  cases n with
  | zero => rfl
  | succ n =>
    simp only [callN]
    cases h : D f with
    | none => rfl
    | some d =>
      rw [h] at ho
      simp only [runD, List.length_map, e]
      rw [show d.own = false from ho]
      simp only [Bool.false_eq_true, if_false]
end PR

set_option maxRecDepth 100000
set_option linter.unusedSimpArgs false
namespace PR
open SR
/-! ### whole parts of division -/
theorem neg_neg_fdiv (x y : Int) : x.fdiv y = (-x).fdiv (-y) := by
  rw [Int.neg_fdiv_neg]
theorem fdiv_up {a b y : Int} (h : a ≤ b) (hy : 0 < y) : a.fdiv y ≤ b.fdiv y := by
  rw [Int.fdiv_eq_ediv_of_nonneg _ (by omega), Int.fdiv_eq_ediv_of_nonneg _ (by omega)]
  exact Int.ediv_le_ediv hy h
theorem fdiv_x {a b x y : Int} (h1 : a ≤ x) (h2 : x ≤ b) (hy : y ≠ 0) : (a.fdiv y ≤ x.fdiv y ∧ x.fdiv y ≤ b.fdiv y) ∨ (b.fdiv y ≤ x.fdiv y ∧ x.fdiv y ≤ a.fdiv y) := by
  by_cases h : 0 < y
  · exact .inl ⟨fdiv_up h1 h, fdiv_up h2 h⟩
  · rw [neg_neg_fdiv a, neg_neg_fdiv b, neg_neg_fdiv x]
    exact .inr ⟨fdiv_up (by omega) (by omega), fdiv_up (by omega) (by omega)⟩
theorem fdiv_dn {x y z : Int} (hx : 0 ≤ x) (hy : 0 < y) (h : y ≤ z) : x.fdiv z ≤ x.fdiv y := by
  rw [Int.fdiv_eq_ediv_of_nonneg _ (by omega), Int.fdiv_eq_ediv_of_nonneg _ (by omega)]
  rw [Int.le_ediv_iff_mul_le hy]
  have q := Int.ediv_nonneg hx (show 0 ≤ z by omega)
  have e := Int.mul_le_mul_of_nonneg_left h q
  have e2 := Int.ediv_mul_le x (show z ≠ 0 by omega)
  omega
theorem fdiv_dn' {x y z : Int} (hx : x < 0) (hy : 0 < y) (h : y ≤ z) : x.fdiv y ≤ x.fdiv z := by
  rw [Int.fdiv_eq_ediv_of_nonneg _ (by omega), Int.fdiv_eq_ediv_of_nonneg _ (by omega)]
  rw [Int.le_ediv_iff_mul_le (by omega)]
  have q := Int.ediv_neg_of_neg_of_pos hx hy
  have e := Int.mul_le_mul_of_nonpos_left (a := x / y) (by omega) h
  have e2 := Int.ediv_mul_le x (show y ≠ 0 by omega)
  omega
theorem fdiv_yp {x y c d : Int} (hc : 0 < c) (h1 : c ≤ y) (h2 : y ≤ d) : (x.fdiv c ≤ x.fdiv y ∧ x.fdiv y ≤ x.fdiv d) ∨ (x.fdiv d ≤ x.fdiv y ∧ x.fdiv y ≤ x.fdiv c) := by
  by_cases h : 0 ≤ x
  · exact .inr ⟨fdiv_dn h (by omega) h2, fdiv_dn h hc h1⟩
  · exact .inl ⟨fdiv_dn' (by omega) hc h1, fdiv_dn' (by omega) (by omega) h2⟩
theorem fdiv_y {x y c d : Int} (hc : 0 < c ∨ d < 0) (h1 : c ≤ y) (h2 : y ≤ d) : (x.fdiv c ≤ x.fdiv y ∧ x.fdiv y ≤ x.fdiv d) ∨ (x.fdiv d ≤ x.fdiv y ∧ x.fdiv y ≤ x.fdiv c) := by
  rcases hc with hc | hc
  · exact fdiv_yp hc h1 h2
  · rw [neg_neg_fdiv x c, neg_neg_fdiv x d, neg_neg_fdiv x y]
    exact (fdiv_yp (x := -x) (c := -d) (d := -c) (y := -y) (by omega) (by omega) (by omega)).symm
theorem be3_bt {a b c d x y : Int} (hx1 : a ≤ x) (hx2 : x ≤ b) (hy1 : c ≤ y) (hy2 : y ≤ d) (hc : 0 < c ∨ d < 0) : (beV 3 a b c d).1 ≤ x.fdiv y ∧ x.fdiv y ≤ (beV 3 a b c d).2 := by
  have hm := (mn4_of (rk 3 a c) (rk 3 a d) (rk 3 b c) (rk 3 b d)).2
  have hM := (mx4_of (rk 3 a c) (rk 3 a d) (rk 3 b c) (rk 3 b d)).2
  have e1 : (beV 3 a b c d).1 = mn4 (rk 3 a c) (rk 3 a d) (rk 3 b c) (rk 3 b d) := rfl
  have e2 : (beV 3 a b c d).2 = mx4 (rk 3 a c) (rk 3 a d) (rk 3 b c) (rk 3 b d) := rfl
  rw [e1, e2]
  generalize mn4 (rk 3 a c) (rk 3 a d) (rk 3 b c) (rk 3 b d) = mn at *
  generalize mx4 (rk 3 a c) (rk 3 a d) (rk 3 b c) (rk 3 b d) = mx at *
  simp only [rk] at *
  have q1 := fdiv_x (y := y) hx1 hx2 (by omega)
  have q2 := fdiv_y (x := a) hc hy1 hy2
  have q3 := fdiv_y (x := b) hc hy1 hy2
  omega
/-- the parts of a stretch below and above 0 -/
def ngO (a b c d : Int) : Option (Int × Int) := if c ≤ -1 then some (beV 3 a b c (if d < -1 then d else -1)) else none
def psO (a b c d : Int) : Option (Int × Int) := if 1 ≤ d then some (beV 3 a b (if 1 < c then c else 1) d) else none
theorem metO_eq {a b c d M m : Int} (h1 : (if c > a then c else a) = M) (h2 : (if d < b then d else b) = m) (h : M ≤ m) : metO a b c d = some (M, m) := by
  unfold metO
  rw [h1, h2, if_neg (by omega)]
theorem metO_no {a b c d : Int} (h : (if c > a then c else a) > (if d < b then d else b)) : metO a b c d = none := if_pos h
theorem divO_eq {a b c d : Int} (h : c ≤ d) : divO a b c d = joinO (ngO a b c d) (psO a b c d) := by
  have e1 : (metO c d (if (-1) < c then -1 else c) (-1)).map (fun p => beV 3 a b p.1 p.2) = ngO a b c d := by
    unfold ngO
    by_cases q : c ≤ -1
    · rw [if_pos q, metO_eq (M := c) (m := if d < -1 then d else -1) (by omega) (by omega) (by omega)]
      rfl
    · rw [if_neg q, metO_no (by omega)]
      rfl
  have e2 : (metO c d 1 (if 1 > d then 1 else d)).map (fun p => beV 3 a b p.1 p.2) = psO a b c d := by
    unfold psO
    by_cases q : 1 ≤ d
    · rw [if_pos q, metO_eq (M := if 1 < c then c else 1) (m := d) (by omega) (by omega) (by omega)]
      rfl
    · rw [if_neg q, metO_no (by omega)]
      rfl
  unfold divO
  rw [e1, e2]
  cases ngO a b c d <;> rfl
/-! ### what is told bounds all worths, and stands at ends -/
theorem join_bt {x y : Option (Int × Int)} {t : Int × Int} (h : joinO x y = some t) : (∀ p, x = some p → t.1 ≤ p.1 ∧ p.2 ≤ t.2) ∧ (∀ p, y = some p → t.1 ≤ p.1 ∧ p.2 ≤ t.2) ∧
    ((∃ p, x = some p ∧ t.1 = p.1) ∨ (∃ p, y = some p ∧ t.1 = p.1)) ∧ ((∃ p, x = some p ∧ t.2 = p.2) ∨ (∃ p, y = some p ∧ t.2 = p.2)) := by
  cases x with
  | none =>
    have e : y = some t := h
    subst e
    exact ⟨nofun, fun p e => by cases e; omega, .inr ⟨t, rfl, rfl⟩, .inr ⟨t, rfl, rfl⟩⟩
  | some p => cases y with
    | none =>
      have e : some p = some t := h
      cases e
      exact ⟨fun p e => by cases e; omega, nofun, .inl ⟨_, rfl, rfl⟩, .inl ⟨_, rfl, rfl⟩⟩
    | some q =>
      obtain ⟨a, b⟩ := p
      obtain ⟨c, d⟩ := q
      have e : some ((if c < a then c else a), (if d > b then d else b)) = some t := h
      cases e
      refine ⟨fun z e => ?_, fun z e => ?_, ?_, ?_⟩
      · cases e
        simp only
        omega
      · cases e
        simp only
        omega
      · by_cases z : c < a
        · exact .inr ⟨_, rfl, if_pos z⟩
        · exact .inl ⟨_, rfl, if_neg z⟩
      · by_cases z : d > b
        · exact .inr ⟨_, rfl, if_pos z⟩
        · exact .inl ⟨_, rfl, if_neg z⟩
theorem join_in {p q : Int × Int} : joinO (some p) (some q) = some q ↔ q.1 ≤ p.1 ∧ p.2 ≤ q.2 := by
  obtain ⟨a, b⟩ := p
  obtain ⟨c, d⟩ := q
  simp only [joinO, Option.some.injEq, Prod.mk.injEq]
  omega
/-- v is what two worths come to, by their ends, or 1 and -1 -/
def Cor (k : Nat) (a b c d v : Int) : Prop := ∃ x y, (x = a ∨ x = b) ∧ (y = c ∨ y = d ∨ y = -1 ∨ y = 1) ∧ (c ≤ y ∧ y ≤ d) ∧ (k = 3 → y ≠ 0) ∧ rk k x y = v
theorem be_cor {k : Nat} {a b c d c' d' : Int} (h1 : c' = c ∨ c' = d ∨ c' = -1 ∨ c' = 1) (h2 : d' = c ∨ d' = d ∨ d' = -1 ∨ d' = 1) (b1 : c ≤ c' ∧ c' ≤ d) (b2 : c ≤ d' ∧ d' ≤ d) (z1 : k = 3 → c' ≠ 0) (z2 : k = 3 → d' ≠ 0) :
    Cor k a b c d (beV k a b c' d').1 ∧ Cor k a b c d (beV k a b c' d').2 := by
  constructor
  · rcases (mn4_of (rk k a c') (rk k a d') (rk k b c') (rk k b d')).1 with e | e | e | e
    · exact ⟨a, c', .inl rfl, h1, b1, z1, e.symm⟩
    · exact ⟨a, d', .inl rfl, h2, b2, z2, e.symm⟩
    · exact ⟨b, c', .inr rfl, h1, b1, z1, e.symm⟩
    · exact ⟨b, d', .inr rfl, h2, b2, z2, e.symm⟩
  · rcases (mx4_of (rk k a c') (rk k a d') (rk k b c') (rk k b d')).1 with e | e | e | e
    · exact ⟨a, c', .inl rfl, h1, b1, z1, e.symm⟩
    · exact ⟨a, d', .inl rfl, h2, b2, z2, e.symm⟩
    · exact ⟨b, c', .inr rfl, h1, b1, z1, e.symm⟩
    · exact ⟨b, d', .inr rfl, h2, b2, z2, e.symm⟩
theorem ng_some {a b c d : Int} {p : Int × Int} (h : ngO a b c d = some p) : c ≤ -1 ∧ p = beV 3 a b c (if d < -1 then d else -1) := by
  unfold ngO at h
  by_cases q : c ≤ -1
  · rw [if_pos q] at h
    exact ⟨q, (Option.some.inj h).symm⟩
  · rw [if_neg q] at h
    cases h
theorem ps_some {a b c d : Int} {p : Int × Int} (h : psO a b c d = some p) : 1 ≤ d ∧ p = beV 3 a b (if 1 < c then c else 1) d := by
  unfold psO at h
  by_cases q : 1 ≤ d
  · rw [if_pos q] at h
    exact ⟨q, (Option.some.inj h).symm⟩
  · rw [if_neg q] at h
    cases h
theorem ng_cor {a b c d : Int} {p : Int × Int} (hcd : c ≤ d) (h : ngO a b c d = some p) : Cor 3 a b c d p.1 ∧ Cor 3 a b c d p.2 := by
  obtain ⟨q, rfl⟩ := ng_some h
  refine be_cor (.inl rfl) ?_ ⟨Int.le_refl _, hcd⟩ ?_ (fun _ => ?_) (fun _ => ?_)
  · by_cases z : d < -1 <;> simp [z]
  · omega
  · omega
  · omega
theorem ps_cor {a b c d : Int} {p : Int × Int} (hcd : c ≤ d) (h : psO a b c d = some p) : Cor 3 a b c d p.1 ∧ Cor 3 a b c d p.2 := by
  obtain ⟨q, rfl⟩ := ps_some h
  refine be_cor ?_ (.inr (.inl rfl)) ?_ ⟨hcd, Int.le_refl _⟩ (fun _ => ?_) (fun _ => ?_)
  · by_cases z : 1 < c <;> simp [z]
  · omega
  · omega
  · omega
theorem st_cor {k : Nat} {a b c d : Int} {t : Int × Int} (hk : k < 8) (hab : a ≤ b) (hcd : c ≤ d) (h5 : k ≠ 5) (h : stO k a b c d = some t) : Cor k a b c d t.1 ∧ Cor k a b c d t.2 := by
  unfold stO at h
  by_cases h3 : k = 3
  · subst h3
    rw [if_pos rfl, divO_eq hcd] at h
    obtain ⟨-, -, q1, q2⟩ := join_bt h
    constructor
    · rcases q1 with ⟨p, e, r⟩ | ⟨p, e, r⟩
      · rw [r]; exact (ng_cor hcd e).1
      · rw [r]; exact (ps_cor hcd e).1
    · rcases q2 with ⟨p, e, r⟩ | ⟨p, e, r⟩
      · rw [r]; exact (ng_cor hcd e).2
      · rw [r]; exact (ps_cor hcd e).2
  · rw [if_neg h3] at h
    by_cases h4 : k = 4
    · subst h4
      rw [if_pos (.inl rfl)] at h
      unfold askV at h
      rw [if_pos rfl] at h
      cases h
      refine ⟨⟨b, c, .inr rfl, .inl rfl, ⟨Int.le_refl _, hcd⟩, nofun, ?_⟩, ⟨a, d, .inl rfl, .inr (.inl rfl), ⟨hcd, Int.le_refl _⟩, nofun, ?_⟩⟩
      · simp [rk, bz]
      · simp [rk, bz]
    · rw [if_neg (by omega)] at h
      cases h
      exact be_cor (.inl rfl) (.inr (.inl rfl)) ⟨Int.le_refl _, hcd⟩ ⟨hcd, Int.le_refl _⟩ (fun z => absurd z h3) (fun z => absurd z h3)
theorem met_isSome {a b c d : Int} : (metO a b c d).isSome = decide ((if c > a then c else a) ≤ (if d < b then d else b)) := by
  unfold metO
  by_cases h : (if c > a then c else a) > (if d < b then d else b)
  · rw [if_pos h]
    have : ¬ (if c > a then c else a) ≤ (if d < b then d else b) := by omega
    simp [this]
  · rw [if_neg h]
    have : (if c > a then c else a) ≤ (if d < b then d else b) := by omega
    simp [this]
theorem bz_le {p q : Bool} (h : p = true → q = true) : bz p ≤ bz q := by
  cases p <;> cases q <;> simp_all [bz]
theorem ask5 {a b c d : Int} : askV 5 a b c d = some (bz (decide (a = b ∧ a = c ∧ b = d)), bz (decide ((if c > a then c else a) ≤ (if d < b then d else b)))) := by
  unfold askV
  rw [if_neg (by decide), met_isSome]
  congr 3
  by_cases h1 : a = b <;> by_cases h2 : a = c <;> by_cases h3 : b = d <;> simp [h1, h2, h3]
/-- all that two worths come to is in what is told -/
theorem st_bt {k : Nat} {a b c d x y : Int} {t : Int × Int} (hk : k < 8) (hx1 : a ≤ x) (hx2 : x ≤ b) (hy1 : c ≤ y) (hy2 : y ≤ d) (hy : k = 3 → y ≠ 0) (h : stO k a b c d = some t) : t.1 ≤ rk k x y ∧ rk k x y ≤ t.2 := by
  unfold stO at h
  by_cases h3 : k = 3
  · subst h3
    rw [if_pos rfl, divO_eq (by omega)] at h
    obtain ⟨q1, q2, -, -⟩ := join_bt h
    have y0 := hy rfl
    by_cases z : y < 0
    · have g := q1 _ (show ngO a b c d = some _ from if_pos (by omega))
      have e := be3_bt (d := if d < -1 then d else -1) hx1 hx2 hy1 (by omega) (.inr (by omega))
      show t.1 ≤ x.fdiv y ∧ x.fdiv y ≤ t.2
      omega
    · have g := q2 _ (show psO a b c d = some _ from if_pos (by omega))
      have e := be3_bt (c := if 1 < c then c else 1) hx1 hx2 (by omega) hy2 (.inl (by omega))
      show t.1 ≤ x.fdiv y ∧ x.fdiv y ≤ t.2
      omega
  · rw [if_neg h3] at h
    by_cases h4 : k = 4
    · subst h4
      rw [if_pos (.inl rfl)] at h
      unfold askV at h
      rw [if_pos rfl] at h
      cases h
      have e : rk 4 x y = bz (decide (x < y)) := by simp [rk, bz]
      rw [e]
      exact ⟨bz_le (by simp; omega), bz_le (by simp; omega)⟩
    by_cases h5 : k = 5
    · subst h5
      rw [if_pos (.inr rfl), ask5] at h
      cases h
      have e : rk 5 x y = bz (decide (x = y)) := by simp [rk, bz]
      rw [e]
      exact ⟨bz_le (by simp only [decide_eq_true_eq]; omega), bz_le (by simp only [decide_eq_true_eq]; omega)⟩
    · rw [if_neg (by omega)] at h
      cases h
      exact bt_all (by omega) (by omega) hk h3 h5 x y hx1 hx2 hy1 hy2
theorem st_none {k : Nat} {a b c d : Int} (hcd : c ≤ d) (h : stO k a b c d = none) : k = 3 ∧ c = 0 ∧ d = 0 := by
  unfold stO at h
  by_cases h3 : k = 3
  · rw [if_pos h3, divO_eq hcd] at h
    refine ⟨h3, ?_⟩
    unfold ngO psO at h
    by_cases q1 : c ≤ -1
    · rw [if_pos q1] at h
      by_cases q2 : 1 ≤ d
      · rw [if_pos q2] at h; cases h
      · rw [if_neg q2] at h; cases h
    · rw [if_neg q1] at h
      by_cases q2 : 1 ≤ d
      · rw [if_pos q2] at h; cases h
      · omega
  · rw [if_neg h3] at h
    by_cases h4 : k = 4 ∨ k = 5
    · rw [if_pos h4] at h
      unfold askV at h
      split at h <;> cases h
    · rw [if_neg h4] at h
      cases h
/-- a stretch in another one comes to no more -/
theorem st_mono {k : Nat} {a a' b c d : Int} {t : Int × Int} (hk : k < 8) (h1 : a ≤ a') (h2 : a' ≤ b) (hcd : c ≤ d) (h : stO k a b c d = some t) : joinO (stO k a a' c d) (some t) = some t := by
  cases e : stO k a a' c d with
  | none => rfl
  | some l =>
    rw [join_in]
    by_cases h5 : k = 5
    · subst h5
      unfold stO at h e
      rw [if_neg (by decide), if_pos (.inr rfl), ask5] at h e
      cases h
      cases e
      exact ⟨bz_le (by simp only [decide_eq_true_eq]; omega), bz_le (by simp only [decide_eq_true_eq]; omega)⟩
    · obtain ⟨⟨x, y, hx, -, hy, z, r⟩, ⟨x2, y2, hx2, -, hy2, z2, r2⟩⟩ := st_cor hk h1 hcd h5 e
      rw [← r, ← r2]
      exact ⟨(st_bt hk (by omega) (by omega) hy.1 hy.2 z h).1, (st_bt hk (by omega) (by omega) hy2.1 hy2.2 z2 h).2⟩
end PR

set_option maxRecDepth 100000
set_option linter.unusedSimpArgs false
namespace PR
open SR
/-! ### equal things, items, texts -/
mutual
theorem eqv_me : ∀ x : PV, data x = true → eqv x x = true
  | .non, _ => rfl
  | .bl a, _ => by simp [eqv]
  | .int i, _ => by simp [eqv]
  | .str s, _ => by simp [eqv]
  | .lst xs, h => by
    have h : datas xs = true := by simpa [data] using h
    have := eqvs_me xs h
    simp [eqv, this]
  | .tup xs, h => by
    have h : datas xs = true := by simpa [data] using h
    have := eqvs_me xs h
    simp [eqv, this]
  | .dct kvs, h => by simp [data] at h
  | .obj o, h => by simp [data] at h
theorem eqvs_me : ∀ xs : List PV, datas xs = true → eqvs xs xs = true
  | [], _ => rfl
  | x :: r, h => by
    simp only [datas, Bool.and_eq_true] at h
    simp [eqvs, eqv_me x h.1, eqvs_me r h.2]
end
theorem shallow_me {x : PV} (h : data x = true) (d : dep x ≤ 60) : shallow x x = true := by
  unfold shallow
  rw [h, Nat.min_self]
  simp [d]
theorem cmp_eq_me {z : Bool} {x : PV} (h : data x = true) (d : dep x ≤ 60) : cmp2 .eq z x x = some true := by
  show (if shallow x x then some (eqv x x) else none) = _
  rw [shallow_me h d, if_pos rfl, eqv_me x h]
theorem cmp_ne_me {z : Bool} {x : PV} (h : data x = true) (d : dep x ≤ 60) : cmp2 .ne z x x = some false := by
  show (if shallow x x then some (!eqv x x) else none) = _
  rw [shallow_me h d, if_pos rfl, eqv_me x h]
  rfl
theorem datas_map {β : Type} {e : β → PV} : ∀ {l : List β}, (∀ x ∈ l, data (e x) = true) → datas (l.map e) = true
  | [], _ => rfl
  | x :: r, h => by
    simp only [List.map_cons, datas, h x List.mem_cons_self, datas_map (l := r) fun y hy => h y (List.mem_cons_of_mem _ hy), Bool.and_self]
theorem deps_map {β : Type} {e : β → PV} {k : Nat} : ∀ {l : List β}, (∀ x ∈ l, dep (e x) ≤ k) → deps (l.map e) ≤ k
  | [], _ => Nat.zero_le _
  | x :: r, h => by
    simp only [List.map_cons, deps]
    exact Nat.max_le.mpr ⟨h x List.mem_cons_self, deps_map (l := r) fun y hy => h y (List.mem_cons_of_mem _ hy)⟩
theorem item_map {β : Type} {e : β → PV} {l : List β} {i : Int} (h0 : 0 ≤ i) (h1 : i < l.length) : ∃ x ∈ l, item (.lst (l.map e)) (.int i) = some (e x) := by
  have hk : i.toNat < l.length := by omega
  refine ⟨l[i.toNat], List.getElem_mem hk, ?_⟩
  show ((if (0 : Int) ≤ i then (if i < ((l.map e).length : Nat) then some i.toNat else none) else _ : Option Nat).bind fun k => (l.map e)[k]?) = _
  rw [if_pos h0, if_pos (by rw [List.length_map]; exact h1), Option.bind_some, List.getElem?_map, List.getElem?_eq_getElem hk]
  rfl
theorem item_mapT {β : Type} {e : β → PV} {l : List β} {i : Int} (h0 : 0 ≤ i) (h1 : i < l.length) : ∃ x ∈ l, item (.tup (l.map e)) (.int i) = some (e x) := by
  have hk : i.toNat < l.length := by omega
  refine ⟨l[i.toNat], List.getElem_mem hk, ?_⟩
  show ((if (0 : Int) ≤ i then (if i < ((l.map e).length : Nat) then some i.toNat else none) else _ : Option Nat).bind fun k => (l.map e)[k]?) = _
  rw [if_pos h0, if_pos (by rw [List.length_map]; exact h1), Option.bind_some, List.getElem?_map, List.getElem?_eq_getElem hk]
  rfl
@[simp] theorem cmp2_ninSL {z : Bool} {a : List Nat} {xs : List PV} : cmp2 .nin z (.str a) (.lst xs) = if datas xs then some (!member (.str a) xs) else none := by cases z <;> simp [cmp2, data, dep]
theorem op2_addT {xs ys : List PV} (h : xs.length + ys.length ≤ 16000000) : op2 .add true (.tup xs) (.tup ys) = some (.tup (xs ++ ys), .sh) := if_pos h
theorem op2_addL {z : Bool} {xs ys : List PV} (h : xs.length + ys.length ≤ 16000000) : op2 .add z (.lst xs) (.lst ys) = some (.lst (xs ++ ys), .own) := by
  cases z <;> exact if_pos h
theorem member_strs {a : List Nat} : ∀ l : List (List Nat), member (.str a) (l.map .str) = decide (a ∈ l)
  | [] => by simp
  | q :: r => by
    rw [List.map_cons, member_SS, member_strs r]
    by_cases h : q = a
    · simp [h]
    · have h' : ¬ a = q := fun e => h e.symm
      simp [h, h']
theorem datas_strs (l : List (List Nat)) : datas (l.map .str) = true := datas_map fun _ _ => rfl
theorem enumF_map {β : Type} {e : β → PV} : ∀ (l : List β) (n : Nat), enumF n (l.map e) = (List.zip (List.range' n l.length) l).map fun p => .tup [.int p.1, e p.2]
  | [], n => rfl
  | x :: r, n => by
    simp only [List.map_cons, enumF, List.length_cons, List.range'_succ, List.zip_cons_cons, enumF_map r (n + 1)]
def isiR (t : Ty) : Res → Res
  | .ok v _ S => ofB S (isTyO t (view S v))
  | .exc c S => .exc c S
  | .bad => .bad
@[simp] theorem isiR_ok {t : Ty} {v : PV} {m : Md} {S : Sto} : isiR t (.ok v m S) = ofB S (isTyO t (view S v)) := rfl
@[simp] theorem evE_isi {G : Prg} {Φ : Phi} {t : Ty} {e : CE} {r : Env} {S : Sto} : evE G Φ (.isi t e) r S = isiR t (evE G Φ e r S) := by
  simp only [evE]
  cases evE G Φ e r S <;> rfl
@[simp] theorem isTyO_int {t : Ty} {i : Int} : isTyO t (.int i) = some (isTy t (.int i)) := rfl
@[simp] theorem isTyO_bl {t : Ty} {i : Bool} : isTyO t (.bl i) = some (isTy t (.bl i)) := rfl
@[simp] theorem isTyO_str {t : Ty} {i : List Nat} : isTyO t (.str i) = some (isTy t (.str i)) := rfl
@[simp] theorem isTyO_tup {t : Ty} {i : List PV} : isTyO t (.tup i) = some (isTy t (.tup i)) := rfl
@[simp] theorem isTyO_lst {t : Ty} {i : List PV} : isTyO t (.lst i) = some (isTy t (.lst i)) := rfl
@[simp] theorem isTyO_non {t : Ty} : isTyO t .non = some (isTy t .non) := rfl
@[simp] theorem isTy_tt {i : List PV} : isTy .tuple (.tup i) = true := rfl
@[simp] theorem isTy_ti {i : Int} : isTy .tuple (.int i) = false := rfl
@[simp] theorem isTy_tb {i : Bool} : isTy .tuple (.bl i) = false := rfl
@[simp] theorem isTy_ts {i : List Nat} : isTy .tuple (.str i) = false := rfl
@[simp] theorem isTy_tl {i : List PV} : isTy .tuple (.lst i) = false := rfl
@[simp] theorem isTy_tn : isTy .tuple .non = false := rfl
@[simp] theorem isTy_st {i : List PV} : isTy .str (.tup i) = false := rfl
@[simp] theorem isTy_si {i : Int} : isTy .str (.int i) = false := rfl
@[simp] theorem isTy_sb {i : Bool} : isTy .str (.bl i) = false := rfl
@[simp] theorem isTy_ss {i : List Nat} : isTy .str (.str i) = true := rfl
@[simp] theorem isTy_sl {i : List PV} : isTy .str (.lst i) = false := rfl
@[simp] theorem isTy_sn : isTy .str .non = false := rfl
@[simp] theorem isTy_it {i : List PV} : isTy .int (.tup i) = false := rfl
@[simp] theorem isTy_ii {i : Int} : isTy .int (.int i) = true := rfl
@[simp] theorem isTy_ib {i : Bool} : isTy .int (.bl i) = true := rfl
@[simp] theorem isTy_is {i : List Nat} : isTy .int (.str i) = false := rfl
@[simp] theorem isTy_il {i : List PV} : isTy .int (.lst i) = false := rfl
@[simp] theorem isTy_in : isTy .int .non = false := rfl
@[simp] theorem isTy_bt {i : List PV} : isTy .bool (.tup i) = false := rfl
@[simp] theorem isTy_bi {i : Int} : isTy .bool (.int i) = false := rfl
@[simp] theorem isTy_bb {i : Bool} : isTy .bool (.bl i) = true := rfl
@[simp] theorem isTy_bs {i : List Nat} : isTy .bool (.str i) = false := rfl
@[simp] theorem isTy_bl {i : List PV} : isTy .bool (.lst i) = false := rfl
@[simp] theorem isTy_bn : isTy .bool .non = false := rfl
/-! ### the little programs -/
abbrev Tx := List Nat
inductive Ex where
  | num (i : Int) | nam (x : Tx) | two (w : Tx) (a b : Ex)
mutual
inductive De where
  | set (x : Tx) (e : Ex) | ife (e : Ex) (a b : Bl) | whl (e : Ex) (m : Int) (b : Bl)
inductive Bl where
  | nil | cons (d : De) (b : Bl)
end
def enE : Ex → PV
  | .num i => .tup [.str [110, 117, 109], .int i]
  | .nam x => .tup [.str [110, 97, 109, 101], .str x]
  | .two w a b => .tup [.str w, enE a, enE b]
mutual
def enD : De → PV
  | .set x e => .tup [.str [115, 101, 116], .str x, enE e]
  | .ife e a b => .tup [.str [105, 102], enE e, .tup (enB a), .tup (enB b)]
  | .whl e m b => .tup [.str [119, 104, 105, 108, 101], enE e, .int m, .tup (enB b)]
def enB : Bl → List PV
  | .nil => []
  | .cons d b => enD d :: enB b
end
def Bl.toL : Bl → List De
  | .nil => []
  | .cons d b => d :: b.toL
def Bl.ofL : List De → Bl
  | [] => .nil
  | d :: r => .cons d (Bl.ofL r)
theorem toL_ofL : ∀ l : List De, (Bl.ofL l).toL = l
  | [] => rfl
  | d :: r => by rw [Bl.ofL, Bl.toL, toL_ofL r]
theorem enB_toL : ∀ b : Bl, enB b = b.toL.map enD
  | .nil => by rw [enB, Bl.toL]; rfl
  | .cons d b => by rw [enB, Bl.toL, List.map_cons, enB_toL b]
theorem enB_ofL (l : List De) : enB (Bl.ofL l) = l.map enD := by rw [enB_toL, toL_ofL]
def Bl.len (b : Bl) : Nat := b.toL.length
/-- the words of two -/
def TW : List Tx := [[97, 100, 100], [115, 117, 98], [109, 117, 108], [113, 117, 111], [108, 101, 115, 115], [115, 97, 109, 101], [109, 105, 110], [109, 97, 120]]
/-- the names of drawn programs -/
def NM : List Tx := [[97], [98], [99], [100, 100]]
/-- a sum, so deep at most, by names of a list -/
def wE (ks : List Tx) : Nat → Ex → Prop
  | _, .num i => -32768 ≤ i ∧ i ≤ 32767
  | _, .nam x => x ∈ ks
  | d, .two w a b => w ∈ TW ∧ 2 ≤ d ∧ wE ks (d - 1) a ∧ wE ks (d - 1) b
mutual
/-- the names known behind -/
def kD (ks : List Tx) : De → List Tx
  | .set x _ => ks ++ [x]
  | .ife _ a b => (kB ks a).filter fun x => decide (x ∈ kB ks b)
  | .whl _ _ _ => ks
def kB (ks : List Tx) : Bl → List Tx
  | .nil => ks
  | .cons d b => kB (kD ks d) b
end
mutual
/-- a deed, with blocks in one another so deep -/
def wD (ks : List Tx) : Nat → De → Prop
  | _, .set x e => x ∈ NM ∧ wE ks 3 e
  | d, .ife e a b => wE ks 3 e ∧ 2 ≤ d ∧ a.len ≤ 4 ∧ b.len ≤ 4 ∧ wB ks (d - 1) a ∧ wB ks (d - 1) b
  | d, .whl e m b => wE ks 3 e ∧ (0 ≤ m ∧ m ≤ 20) ∧ 2 ≤ d ∧ b.len ≤ 4 ∧ wB ks (d - 1) b
def wB (ks : List Tx) : Nat → Bl → Prop
  | _, .nil => True
  | d, .cons x b => wD ks d x ∧ wB (kD ks x) d b
end
mutual
/-- how many deeds set -/
def nsD : De → Nat
  | .set _ _ => 1
  | .ife _ a b => nsB a + nsB b
  | .whl _ _ b => nsB b
def nsB : Bl → Nat
  | .nil => 0
  | .cons d b => nsD d + nsB b
end
theorem nsB_app (x : De) : ∀ l : List De, nsB (Bl.ofL (l ++ [x])) = nsB (Bl.ofL l) + nsD x
  | [] => by simp only [List.nil_append, Bl.ofL, nsB]; omega
  | y :: l => by simp only [List.cons_append, Bl.ofL, nsB, nsB_app x l]; omega
def ms : Nat → Nat
  | 0 => 1
  | 1 => 1
  | 2 => 2
  | _ => 8
/-- what comes in by a name -/
structure Rw where
  nm : Tx
  lo : Int
  hi : Int
def enR (r : Rw) : PV := .tup [.str r.nm, .int r.lo, .int r.hi]
/-- a program -/
structure Pg where
  ins : List Rw
  blk : Bl
def enP (p : Pg) : PV := .tup [.tup (p.ins.map enR), .tup (enB p.blk)]
/-- a drawn program -/
def wP (p : Pg) : Prop := ((∃ k, k ≤ 2 ∧ p.ins.map Rw.nm = ([[97], [98]] : List Tx).take k) ∧ nsB p.blk ≤ 24) ∧ (∀ r ∈ p.ins, -6 ≤ r.lo ∧ r.lo ≤ 6 ∧ r.lo ≤ r.hi ∧ r.hi ≤ r.lo + 2) ∧ p.blk.len ≤ 3 ∧ wB (p.ins.map Rw.nm) 3 p.blk
end PR

set_option maxRecDepth 100000
set_option maxHeartbeats 2000000
set_option linter.unusedSimpArgs false
namespace PR
open SR
/-! ### books of three names -/
abbrev Iv := Int × Int
def iv (t : Iv) : PV := .tup [.int t.1, .int t.2]
def bk (A B C : Iv) : List (Ky × PV) := [(.str [97], iv A), (.str [98], iv B), (.str [99], iv C)]
/-- a side of a question -/
inductive Sd where
  | na | nb | nu (v : Int)
def enSd : Sd → PV
  | .na => .tup [.str [110, 97, 109, 101], .str [97]]
  | .nb => .tup [.str [110, 97, 109, 101], .str [98]]
  | .nu v => .tup [.str [110, 117, 109], .int v]
def enO (C : Iv) : Option (Iv × Iv) → PV
  | none => .non
  | some (A, B) => .dct (bk A B C)
/-- the stretch of a side -/
def ofS (A B : Iv) : Sd → Iv
  | .na => A
  | .nb => B
  | .nu v => (v, v)
def metI (a b : Iv) : Option Iv := metO a.1 a.2 b.1 b.2
def kept : Option (Iv × Iv) → Sd → Iv → Option (Iv × Iv)
  | none, _, _ => none
  | some (A, B), .na, t => (metI A t).map fun x => (x, B)
  | some (A, B), .nb, t => (metI B t).map fun x => (A, x)
  | some k, .nu _, _ => some k
def woI (a : Iv) (v : Int) : Option Iv := if (if a.1 = v then a.1 + 1 else a.1) ≤ (if a.2 = v then a.2 - 1 else a.2) then some (if a.1 = v then a.1 + 1 else a.1, if a.2 = v then a.2 - 1 else a.2) else none
def unl : Option (Iv × Iv) → Sd → Iv → Option (Iv × Iv)
  | none, _, _ => none
  | some k, .nu _, _ => some k
  | some (A, B), .na, t => if t.1 = t.2 then (match woI A t.1 with | none => none | some x => kept (some (A, B)) .na x) else some (A, B)
  | some (A, B), .nb, t => if t.1 = t.2 then (match woI B t.1 with | none => none | some x => kept (some (A, B)) .nb x) else some (A, B)
theorem c2 {n : Nat} {S : Sto} {a b : Iv} : callN G D (n+1) 2 [.sh (iv a), .sh (iv b)] S = .ok (toP (metI a b)) .sh S := f2
theorem gA {A B C : Iv} : item (.dct (bk A B C)) (.str [97]) = some (iv A) := rfl
theorem gB {A B C : Iv} : item (.dct (bk A B C)) (.str [98]) = some (iv B) := rfl
theorem gC {A B C : Iv} : item (.dct (bk A B C)) (.str [99]) = some (iv C) := rfl
theorem dcp {A B C : Iv} : bi .dict [.dct (bk A B C)] = some (.dct (bk A B C), .own) := rfl
theorem putA {A B C : Iv} {v : PV} : putK (.str [97]) v (bk A B C) = [(.str [97], v), (.str [98], iv B), (.str [99], iv C)] := rfl
theorem putB {A B C : Iv} {v : PV} : putK (.str [98]) v (bk A B C) = [(.str [97], iv A), (.str [98], v), (.str [99], iv C)] := rfl
theorem lenK {A B C : Iv} : (bk A B C).length < lim := by show 3 < lim; unfold lim; decide
theorem kiA {A B C : Iv} : kindOk (.str [97]) (bk A B C) = true := rfl
theorem kiB {A B C : Iv} : kindOk (.str [98]) (bk A B C) = true := rfl
theorem vD {S : Sto} {kvs : List (Ky × PV)} : view S (.dct kvs) = .dct kvs := rfl
theorem iN {kvs : List (Ky × PV)} : isNon (.dct kvs) = false := rfl
theorem c46 {n : Nat} {S : Sto} {C : Iv} {k : Option (Iv × Iv)} {s : Sd} {t : Iv} : ∃ m, (m = .sh ∨ m = .own) ∧ callN G D (n+2) 46 [.sh (enO C k), .sh (enSd s), .sh (iv t)] S = .ok (enO C (kept k s t)) m S := by
  rw [run_eq (d := d46) rfl rfl]
  cases k with
  | none =>
    refine ⟨.sh, .inl rfl, ?_⟩
    simp [d46, enO, kept]
  | some k =>
    obtain ⟨A, B⟩ := k
    cases s with
    | nu v =>
      refine ⟨.sh, .inl rfl, ?_⟩
      simp [d46, enO, enSd, kept, iN, vD]
    | na =>
      have c := c2 (n := n) (S := S) (a := A) (b := t)
      cases h : metI A t with
      | none =>
        rw [h] at c
        refine ⟨.sh, .inl rfl, ?_⟩
        simp only [toP_none] at c
        simp [d46, enO, enSd, kept, iN, vD, gA, c, setS, h]
      | some x =>
        rw [h] at c
        refine ⟨.own, .inr rfl, ?_⟩
        simp only [toP_some] at c
        have l := lenK (A := A) (B := B) (C := C)
        simp [d46, enO, enSd, kept, iN, vD, gA, c, setS, h, dcp, l, kiA, putA]
        rfl
    | nb =>
      have c := c2 (n := n) (S := S) (a := B) (b := t)
      cases h : metI B t with
      | none =>
        rw [h] at c
        refine ⟨.sh, .inl rfl, ?_⟩
        simp only [toP_none] at c
        simp [d46, enO, enSd, kept, iN, vD, gB, c, setS, h]
      | some x =>
        rw [h] at c
        refine ⟨.own, .inr rfl, ?_⟩
        simp only [toP_some] at c
        have l := lenK (A := A) (B := B) (C := C)
        simp [d46, enO, enSd, kept, iN, vD, gB, c, setS, h, dcp, l, kiB, putB]
        rfl
theorem c45 {n : Nat} {S : Sto} {a : Iv} {v : Int} : callN G D (n+1) 45 [.sh (iv a), .sh (.int v)] S = .ok (toP (woI a v)) .sh S := by
  obtain ⟨a1, a2⟩ := a
  rw [run_eq (d := d45) rfl rfl]
  unfold woI
  have fin : ∀ (x y : Int) (r : Env), endR ((rtR r (if x ≤ y then Res.ok (PV.tup [.int x, .int y]) Md.sh S else Res.ok .non Md.sh S)).bind (exB G (callN G D n) .nil)) = Res.ok (toP (if x ≤ y then some (x, y) else none)) Md.sh S := by
    intro x y r
    by_cases h : x ≤ y
    · rw [if_pos h, if_pos h]; rfl
    · rw [if_neg h, if_neg h]; rfl
  by_cases h1 : a1 = v <;> by_cases h2 : a2 = v <;> simp only [h1, h2, if_true, if_false]
  · simp [d45, iv, setS, h1, h2, -Int.not_le]
    exact fin _ _ _
  · simp [d45, iv, setS, h1, h2, -Int.not_le]
    exact fin _ _ _
  · simp [d45, iv, setS, h1, h2, -Int.not_le]
    exact fin _ _ _
  · simp [d45, iv, setS, h1, h2, -Int.not_le]
    exact fin _ _ _
theorem c44 {n : Nat} {S : Sto} {A B C : Iv} {s : Sd} : callN G D (n+1) 44 [.sh (enSd s), .sh (.dct (bk A B C))] S = .ok (iv (ofS A B s)) .sh S := by
  rw [run_eq (d := d44) rfl rfl]
  cases s with
  | nu v => simp [d44, enSd, ofS, iv]
  | na => simp [d44, enSd, ofS, vD, gA]
  | nb => simp [d44, enSd, ofS, vD, gB]
theorem i0 {t : Iv} : item (iv t) (.int 0) = some (.int t.1) := rfl
theorem i1 {t : Iv} : item (iv t) (.int 1) = some (.int t.2) := rfl
theorem vI {S : Sto} {t : Iv} : view S (iv t) = iv t := rfl
theorem toPs {x : Iv} : toP (some x) = iv x := rfl
theorem c47 {n : Nat} {S : Sto} {C : Iv} {k : Option (Iv × Iv)} {s : Sd} {t : Iv} : ∃ m, (m = .sh ∨ m = .own) ∧ callN G D (n+3) 47 [.sh (enO C k), .sh (enSd s), .sh (iv t)] S = .ok (enO C (unl k s t)) m S := by
  rw [run_eq (d := d47) rfl rfl]
  obtain ⟨t1, t2⟩ := t
  cases k with
  | none =>
    refine ⟨.sh, .inl rfl, ?_⟩
    simp [d47, enO, unl]
  | some k =>
    obtain ⟨A, B⟩ := k
    by_cases ht : t1 = t2
    · subst ht
      cases s with
      | nu v =>
        refine ⟨.sh, .inl rfl, ?_⟩
        simp [d47, enO, enSd, unl, iN, vD]
      | na =>
        have c := c45 (n := n + 1) (S := S) (a := A) (v := t1)
        have e : unl (some (A, B)) .na (t1, t1) = match woI A t1 with | none => none | some x => kept (some (A, B)) .na x := if_pos rfl
        rw [e]
        cases h : woI A t1 with
        | none =>
          rw [h, toP_none] at c
          refine ⟨.sh, .inl rfl, ?_⟩
          simp [d47, enO, enSd, iN, vD, gA, setS, i0, i1, vI, c]
        | some x =>
          rw [h, toPs] at c
          obtain ⟨m, hm, c2⟩ := c46 (n := n) (S := S) (C := C) (k := some (A, B)) (s := .na) (t := x)
          refine ⟨m, hm, ?_⟩
          have nx : isNon (iv x) = false := rfl
          simp only [enSd] at c2 ⊢
          have eo : enO C (some (A, B)) = .dct (bk A B C) := rfl
          rw [eo] at c2 ⊢
          rcases hm with rfl | rfl <;> simp [d47, iN, vD, gA, setS, i0, i1, vI, c, nx, c2]
      | nb =>
        have c := c45 (n := n + 1) (S := S) (a := B) (v := t1)
        have e : unl (some (A, B)) .nb (t1, t1) = match woI B t1 with | none => none | some x => kept (some (A, B)) .nb x := if_pos rfl
        rw [e]
        cases h : woI B t1 with
        | none =>
          rw [h, toP_none] at c
          refine ⟨.sh, .inl rfl, ?_⟩
          simp [d47, enO, enSd, iN, vD, gB, setS, i0, i1, vI, c]
        | some x =>
          rw [h, toPs] at c
          obtain ⟨m, hm, c2⟩ := c46 (n := n) (S := S) (C := C) (k := some (A, B)) (s := .nb) (t := x)
          refine ⟨m, hm, ?_⟩
          have nx : isNon (iv x) = false := rfl
          simp only [enSd] at c2 ⊢
          have eo : enO C (some (A, B)) = .dct (bk A B C) := rfl
          rw [eo] at c2 ⊢
          rcases hm with rfl | rfl <;> simp [d47, iN, vD, gB, setS, i0, i1, vI, c, nx, c2]
    · refine ⟨.sh, .inl rfl, ?_⟩
      cases s with
      | nu v => simp [d47, enO, enSd, unl, iN, vD]
      | na =>
        have e : unl (some (A, B)) .na (t1, t2) = some (A, B) := if_neg ht
        rw [e]
        simp [d47, enO, enSd, iN, vD, i0, i1, vI, ht]
      | nb =>
        have e : unl (some (A, B)) .nb (t1, t2) = some (A, B) := if_neg ht
        rw [e]
        simp [d47, enO, enSd, iN, vD, i0, i1, vI, ht]
/-- a question -/
inductive Qn where
  | nm | less (s t : Sd) | same (s t : Sd)
def enQn : Qn → PV
  | .nm => .tup [.str [110, 97, 109, 101], .str [97]]
  | .less s t => .tup [.str [108, 101, 115, 115], enSd s, enSd t]
  | .same s t => .tup [.str [115, 97, 109, 101], enSd s, enSd t]
def bhd (A B : Iv) : Qn → Bool → Option (Iv × Iv)
  | .nm, true => unl (some (A, B)) .na (0, 0)
  | .nm, false => kept (some (A, B)) .na (0, 0)
  | .less s t, true => kept (kept (some (A, B)) s (-32768, (ofS A B t).2 - 1)) t ((ofS A B s).1 + 1, 32767)
  | .less s t, false => kept (kept (some (A, B)) s ((ofS A B t).1, 32767)) t (-32768, (ofS A B s).2)
  | .same s t, true => kept (kept (some (A, B)) s (ofS A B t)) t (ofS A B s)
  | .same s t, false => unl (unl (some (A, B)) s (ofS A B t)) t (ofS A B s)
theorem eO {A B C : Iv} : enO C (some (A, B)) = .dct (bk A B C) := rfl
theorem vS {S : Sto} {s : Sd} : view S (enSd s) = enSd s := by cases s <;> rfl
theorem sh_own {n f : Nat} {S : Sto} {v x y : PV} {R : Res} (h : callN G D n f [.sh v, .sh x, .sh y] S = R) (ho : (match D f with | some d => d.own | none => false) = false := by rfl) : callN G D n f [.own v, .sh x, .sh y] S = R := by
  rw [← h]
  rw [← callN_share (vs := [.own v, .sh x, .sh y]) ho, ← callN_share (vs := [.sh v, .sh x, .sh y]) ho]
  rfl
theorem nivs (t : Iv) : isNon (iv t) = false := rfl
theorem c48n {n : Nat} {S : Sto} {A B C : Iv} {so : Bool} : ∃ m, (m = .sh ∨ m = .own) ∧ callN G D (n+4) 48 [.sh (enQn .nm), .sh (.dct (bk A B C)), .sh (.bl so)] S = .ok (enO C (bhd A B .nm so)) m S := by
  rw [run_eq (d := d48) rfl rfl]
  cases so with
  | true =>
    obtain ⟨m, hm, c⟩ := c47 (n := n) (S := S) (C := C) (k := some (A, B)) (s := .na) (t := (0, 0))
    rw [eO] at c
    simp only [enSd, iv] at c
    refine ⟨m, hm, ?_⟩
    have body : exB G (callN G D (n+3)) d48.body [.sh (enQn .nm), .sh (.dct (bk A B C)), .sh (.bl true), .un, .un] S = .ret (enO C (bhd A B .nm true)) m S := by
      unfold d48
      simp only
      refine seq_to (by (simp [setS, dcp]; (try exact ⟨rfl, rfl⟩))) ?_
      refine seq_to (by (simp [setS]; (try exact ⟨rfl, rfl⟩))) ?_
      refine ret_to ?_
      rcases hm with rfl | rfl <;> simp [enQn, c, bhd]
    rw [show List.map share [Sl.sh (enQn .nm), .sh (.dct (bk A B C)), .sh (.bl true)] ++ List.replicate (d48.slots - d48.params) Sl.un = [.sh (enQn .nm), .sh (.dct (bk A B C)), .sh (.bl true), .un, .un] from rfl, body]
    rcases hm with rfl | rfl <;> rfl
  | false =>
    obtain ⟨m, hm, c⟩ := c46 (n := n + 1) (S := S) (C := C) (k := some (A, B)) (s := .na) (t := (0, 0))
    rw [eO] at c
    simp only [enSd, iv] at c
    refine ⟨m, hm, ?_⟩
    have body : exB G (callN G D (n+3)) d48.body [.sh (enQn .nm), .sh (.dct (bk A B C)), .sh (.bl false), .un, .un] S = .ret (enO C (bhd A B .nm false)) m S := by
      unfold d48
      simp only
      refine seq_to (by (simp [setS, dcp]; (try exact ⟨rfl, rfl⟩))) ?_
      refine seq_to (by (simp [setS]; (try exact ⟨rfl, rfl⟩))) ?_
      refine ret_to ?_
      rcases hm with rfl | rfl <;> simp [enQn, c, bhd]
    rw [show List.map share [Sl.sh (enQn .nm), .sh (.dct (bk A B C)), .sh (.bl false)] ++ List.replicate (d48.slots - d48.params) Sl.un = [.sh (enQn .nm), .sh (.dct (bk A B C)), .sh (.bl false), .un, .un] from rfl, body]
    rcases hm with rfl | rfl <;> rfl
theorem c48lt {n : Nat} {S : Sto} {A B C : Iv} {s t : Sd} : ∃ m, (m = .sh ∨ m = .own) ∧ callN G D (n+4) 48 [.sh (enQn (.less s t)), .sh (.dct (bk A B C)), .sh (.bl true)] S = .ok (enO C (bhd A B (.less s t) true)) m S := by
  rw [run_eq (d := d48) rfl rfl]
  have g3 : G.consts[3]? = some (.int (-32768), true) := rfl
  have g2 : G.consts[2]? = some (.int 32767, true) := rfl
  have c1 := c44 (n := n + 2) (S := S) (A := A) (B := B) (C := C) (s := s)
  have c2 := c44 (n := n + 2) (S := S) (A := A) (B := B) (C := C) (s := t)
  obtain ⟨m1, hm1, c3⟩ := c46 (n := n + 1) (S := S) (C := C) (k := some (A, B)) (s := s) (t := (-32768, (ofS A B t).2 - 1))
  obtain ⟨m, hm, c4⟩ := c46 (n := n + 1) (S := S) (C := C) (k := kept (some (A, B)) s (-32768, (ofS A B t).2 - 1)) (s := t) (t := ((ofS A B s).1 + 1, 32767))
  rw [eO] at c3
  rw [show iv (-32768, (ofS A B t).2 - 1) = .tup [.int (-32768), .int ((ofS A B t).2 - 1)] from rfl] at c3
  rw [show iv ((ofS A B s).1 + 1, 32767) = .tup [.int ((ofS A B s).1 + 1), .int 32767] from rfl] at c4
  refine ⟨m, hm, ?_⟩
  have body : exB G (callN G D (n+3)) d48.body [.sh (enQn (.less s t)), .sh (.dct (bk A B C)), .sh (.bl true), .un, .un] S = .ret (enO C (bhd A B (.less s t) true)) m S := by
    unfold d48
    simp only
    refine seq_to (by (simp [setS, dcp]; (try exact ⟨rfl, rfl⟩))) ?_
    refine seq_to (by (simp [setS]; (try exact ⟨rfl, rfl⟩))) ?_
    refine seq_to (by (simp [setS, enQn]; (try exact ⟨rfl, rfl⟩))) ?_
    refine seq_to (by (simp [setS, enQn]; (try exact ⟨rfl, rfl⟩))) ?_
    refine seq_to (by (simp [setS, enQn, c1, vS]; (try exact ⟨rfl, rfl⟩))) ?_
    refine seq_to (by (simp [setS]; (try exact ⟨rfl, rfl⟩))) ?_
    refine seq_to (by (simp [setS, enQn, c2, vS]; (try exact ⟨rfl, rfl⟩))) ?_
    refine seq_to (by (simp [setS]; (try exact ⟨rfl, rfl⟩))) ?_
    refine seq_to (by (simp [setS, nivs, vI]; (try exact ⟨rfl, rfl⟩))) ?_
    refine seq_to (by (simp [setS, enQn]; (try exact ⟨rfl, rfl⟩))) ?_
    refine seq_to (by (simp [setS, enQn]; (try exact ⟨rfl, rfl⟩))) ?_
    refine ret_to (ife_t (S1 := S) (by simp) ?_)
    refine seq_to (r1 := [.sh (enQn (.less s t)), (match m1 with | .own => .own (enO C (kept (some (A, B)) s (-32768, (ofS A B t).2 - 1))) | _ => .sh (enO C (kept (some (A, B)) s (-32768, (ofS A B t).2 - 1)))), .sh (.bl true), .sh (iv (ofS A B s)), .sh (iv (ofS A B t))]) (S1 := S) (by rcases hm1 with rfl | rfl <;> simp [enQn, vS, vI, i0, i1, g2, g3, c3, setS]) ?_
    refine seq_to (r1 := [.sh (enQn (.less s t)), .sh (enO C (kept (some (A, B)) s (-32768, (ofS A B t).2 - 1))), .sh (.bl true), .sh (iv (ofS A B s)), .sh (iv (ofS A B t))]) (S1 := S) (by rcases hm1 with rfl | rfl <;> simp [setS]) ?_
    refine ret_to ?_
    rcases hm with rfl | rfl <;> simp [enQn, vS, vI, i0, i1, g2, g3, c4, bhd]
  rw [show List.map share [Sl.sh (enQn (.less s t)), .sh (.dct (bk A B C)), .sh (.bl true)] ++ List.replicate (d48.slots - d48.params) Sl.un = [.sh (enQn (.less s t)), .sh (.dct (bk A B C)), .sh (.bl true), .un, .un] from rfl, body]
  rcases hm with rfl | rfl <;> rfl
theorem c48lf {n : Nat} {S : Sto} {A B C : Iv} {s t : Sd} : ∃ m, (m = .sh ∨ m = .own) ∧ callN G D (n+4) 48 [.sh (enQn (.less s t)), .sh (.dct (bk A B C)), .sh (.bl false)] S = .ok (enO C (bhd A B (.less s t) false)) m S := by
  rw [run_eq (d := d48) rfl rfl]
  have g3 : G.consts[3]? = some (.int (-32768), true) := rfl
  have g2 : G.consts[2]? = some (.int 32767, true) := rfl
  have c1 := c44 (n := n + 2) (S := S) (A := A) (B := B) (C := C) (s := s)
  have c2 := c44 (n := n + 2) (S := S) (A := A) (B := B) (C := C) (s := t)
  obtain ⟨m1, hm1, c3⟩ := c46 (n := n + 1) (S := S) (C := C) (k := some (A, B)) (s := s) (t := ((ofS A B t).1, 32767))
  obtain ⟨m, hm, c4⟩ := c46 (n := n + 1) (S := S) (C := C) (k := kept (some (A, B)) s ((ofS A B t).1, 32767)) (s := t) (t := (-32768, (ofS A B s).2))
  rw [eO] at c3
  rw [show iv ((ofS A B t).1, 32767) = .tup [.int (ofS A B t).1, .int 32767] from rfl] at c3
  rw [show iv (-32768, (ofS A B s).2) = .tup [.int (-32768), .int (ofS A B s).2] from rfl] at c4
  refine ⟨m, hm, ?_⟩
  have body : exB G (callN G D (n+3)) d48.body [.sh (enQn (.less s t)), .sh (.dct (bk A B C)), .sh (.bl false), .un, .un] S = .ret (enO C (bhd A B (.less s t) false)) m S := by
    unfold d48
    simp only
    refine seq_to (by (simp [setS, dcp]; (try exact ⟨rfl, rfl⟩))) ?_
    refine seq_to (by (simp [setS]; (try exact ⟨rfl, rfl⟩))) ?_
    refine seq_to (by (simp [setS, enQn]; (try exact ⟨rfl, rfl⟩))) ?_
    refine seq_to (by (simp [setS, enQn]; (try exact ⟨rfl, rfl⟩))) ?_
    refine seq_to (by (simp [setS, enQn, c1, vS]; (try exact ⟨rfl, rfl⟩))) ?_
    refine seq_to (by (simp [setS]; (try exact ⟨rfl, rfl⟩))) ?_
    refine seq_to (by (simp [setS, enQn, c2, vS]; (try exact ⟨rfl, rfl⟩))) ?_
    refine seq_to (by (simp [setS]; (try exact ⟨rfl, rfl⟩))) ?_
    refine seq_to (by (simp [setS, nivs, vI]; (try exact ⟨rfl, rfl⟩))) ?_
    refine seq_to (by (simp [setS, enQn]; (try exact ⟨rfl, rfl⟩))) ?_
    refine seq_to (by (simp [setS, enQn]; (try exact ⟨rfl, rfl⟩))) ?_
    refine seq_to (by (simp [setS]; (try exact ⟨rfl, rfl⟩))) ?_
    refine seq_to (r1 := [.sh (enQn (.less s t)), (match m1 with | .own => .own (enO C (kept (some (A, B)) s ((ofS A B t).1, 32767))) | _ => .sh (enO C (kept (some (A, B)) s ((ofS A B t).1, 32767)))), .sh (.bl false), .sh (iv (ofS A B s)), .sh (iv (ofS A B t))]) (S1 := S) (by rcases hm1 with rfl | rfl <;> simp [enQn, vS, vI, i0, i1, g2, g3, c3, setS]) ?_
    refine seq_to (r1 := [.sh (enQn (.less s t)), .sh (enO C (kept (some (A, B)) s ((ofS A B t).1, 32767))), .sh (.bl false), .sh (iv (ofS A B s)), .sh (iv (ofS A B t))]) (S1 := S) (by rcases hm1 with rfl | rfl <;> simp [setS]) ?_
    refine ret_to ?_
    rcases hm with rfl | rfl <;> simp [enQn, vS, vI, i0, i1, g2, g3, c4, bhd]
  rw [show List.map share [Sl.sh (enQn (.less s t)), .sh (.dct (bk A B C)), .sh (.bl false)] ++ List.replicate (d48.slots - d48.params) Sl.un = [.sh (enQn (.less s t)), .sh (.dct (bk A B C)), .sh (.bl false), .un, .un] from rfl, body]
  rcases hm with rfl | rfl <;> rfl
theorem c48st {n : Nat} {S : Sto} {A B C : Iv} {s t : Sd} : ∃ m, (m = .sh ∨ m = .own) ∧ callN G D (n+4) 48 [.sh (enQn (.same s t)), .sh (.dct (bk A B C)), .sh (.bl true)] S = .ok (enO C (bhd A B (.same s t) true)) m S := by
  rw [run_eq (d := d48) rfl rfl]
  have g3 : G.consts[3]? = some (.int (-32768), true) := rfl
  have g2 : G.consts[2]? = some (.int 32767, true) := rfl
  have c1 := c44 (n := n + 2) (S := S) (A := A) (B := B) (C := C) (s := s)
  have c2 := c44 (n := n + 2) (S := S) (A := A) (B := B) (C := C) (s := t)
  obtain ⟨m1, hm1, c3⟩ := c46 (n := n + 1) (S := S) (C := C) (k := some (A, B)) (s := s) (t := ofS A B t)
  obtain ⟨m, hm, c4⟩ := c46 (n := n + 1) (S := S) (C := C) (k := kept (some (A, B)) s (ofS A B t)) (s := t) (t := ofS A B s)
  have c5 := sh_own c4
  rw [eO] at c3
  refine ⟨m, hm, ?_⟩
  have body : exB G (callN G D (n+3)) d48.body [.sh (enQn (.same s t)), .sh (.dct (bk A B C)), .sh (.bl true), .un, .un] S = .ret (enO C (bhd A B (.same s t) true)) m S := by
    unfold d48
    simp only
    refine seq_to (by (simp [setS, dcp]; (try exact ⟨rfl, rfl⟩))) ?_
    refine seq_to (by (simp [setS]; (try exact ⟨rfl, rfl⟩))) ?_
    refine seq_to (by (simp [setS, enQn]; (try exact ⟨rfl, rfl⟩))) ?_
    refine seq_to (by (simp [setS, enQn]; (try exact ⟨rfl, rfl⟩))) ?_
    refine seq_to (by (simp [setS, enQn, c1, vS]; (try exact ⟨rfl, rfl⟩))) ?_
    refine seq_to (by (simp [setS]; (try exact ⟨rfl, rfl⟩))) ?_
    refine seq_to (by (simp [setS, enQn, c2, vS]; (try exact ⟨rfl, rfl⟩))) ?_
    refine seq_to (by (simp [setS]; (try exact ⟨rfl, rfl⟩))) ?_
    refine seq_to (by (simp [setS, nivs, vI]; (try exact ⟨rfl, rfl⟩))) ?_
    refine ret_to ?_
    rcases hm with rfl | rfl <;> rcases hm1 with rfl | rfl <;> simp [enQn, vS, c3, c4, c5, bhd]
  rw [show List.map share [Sl.sh (enQn (.same s t)), .sh (.dct (bk A B C)), .sh (.bl true)] ++ List.replicate (d48.slots - d48.params) Sl.un = [.sh (enQn (.same s t)), .sh (.dct (bk A B C)), .sh (.bl true), .un, .un] from rfl, body]
  rcases hm with rfl | rfl <;> rfl
theorem c48sf {n : Nat} {S : Sto} {A B C : Iv} {s t : Sd} : ∃ m, (m = .sh ∨ m = .own) ∧ callN G D (n+4) 48 [.sh (enQn (.same s t)), .sh (.dct (bk A B C)), .sh (.bl false)] S = .ok (enO C (bhd A B (.same s t) false)) m S := by
  rw [run_eq (d := d48) rfl rfl]
  have g3 : G.consts[3]? = some (.int (-32768), true) := rfl
  have g2 : G.consts[2]? = some (.int 32767, true) := rfl
  have c1 := c44 (n := n + 2) (S := S) (A := A) (B := B) (C := C) (s := s)
  have c2 := c44 (n := n + 2) (S := S) (A := A) (B := B) (C := C) (s := t)
  obtain ⟨m1, hm1, c3⟩ := c47 (n := n) (S := S) (C := C) (k := some (A, B)) (s := s) (t := ofS A B t)
  obtain ⟨m, hm, c4⟩ := c47 (n := n) (S := S) (C := C) (k := unl (some (A, B)) s (ofS A B t)) (s := t) (t := ofS A B s)
  have c5 := sh_own c4
  rw [eO] at c3
  refine ⟨m, hm, ?_⟩
  have body : exB G (callN G D (n+3)) d48.body [.sh (enQn (.same s t)), .sh (.dct (bk A B C)), .sh (.bl false), .un, .un] S = .ret (enO C (bhd A B (.same s t) false)) m S := by
    unfold d48
    simp only
    refine seq_to (by (simp [setS, dcp]; (try exact ⟨rfl, rfl⟩))) ?_
    refine seq_to (by (simp [setS]; (try exact ⟨rfl, rfl⟩))) ?_
    refine seq_to (by (simp [setS, enQn]; (try exact ⟨rfl, rfl⟩))) ?_
    refine seq_to (by (simp [setS, enQn]; (try exact ⟨rfl, rfl⟩))) ?_
    refine seq_to (by (simp [setS, enQn, c1, vS]; (try exact ⟨rfl, rfl⟩))) ?_
    refine seq_to (by (simp [setS]; (try exact ⟨rfl, rfl⟩))) ?_
    refine seq_to (by (simp [setS, enQn, c2, vS]; (try exact ⟨rfl, rfl⟩))) ?_
    refine seq_to (by (simp [setS]; (try exact ⟨rfl, rfl⟩))) ?_
    refine seq_to (by (simp [setS, nivs, vI]; (try exact ⟨rfl, rfl⟩))) ?_
    refine seq_to (by (simp [setS, enQn]; (try exact ⟨rfl, rfl⟩))) ?_
    refine ret_to ?_
    rcases hm with rfl | rfl <;> rcases hm1 with rfl | rfl <;> simp [enQn, vS, c3, c4, c5, bhd]
  rw [show List.map share [Sl.sh (enQn (.same s t)), .sh (.dct (bk A B C)), .sh (.bl false)] ++ List.replicate (d48.slots - d48.params) Sl.un = [.sh (enQn (.same s t)), .sh (.dct (bk A B C)), .sh (.bl false), .un, .un] from rfl, body]
  rcases hm with rfl | rfl <;> rfl
/-! ### what behind tells -/
def InI (x : Int) (t : Iv) : Prop := t.1 ≤ x ∧ x ≤ t.2
def val (x y : Int) : Sd → Int
  | .na => x
  | .nb => y
  | .nu v => v
theorem metI_in {a b : Iv} {x : Int} (ha : InI x a) (hb : InI x b) : ∃ c, metI a b = some c ∧ InI x c ∧ a.1 ≤ c.1 ∧ c.2 ≤ a.2 := by
  obtain ⟨a1, a2⟩ := a
  obtain ⟨b1, b2⟩ := b
  unfold InI at *
  simp only at ha hb
  refine ⟨(if b1 > a1 then b1 else a1, if b2 < a2 then b2 else a2), metO_eq rfl rfl (by omega), ?_, ?_, ?_⟩ <;> simp only <;> omega
theorem woI_in {a : Iv} {x v : Int} (ha : InI x a) (hx : x ≠ v) : ∃ c, woI a v = some c ∧ InI x c := by
  obtain ⟨a1, a2⟩ := a
  unfold InI at *
  simp only at ha
  refine ⟨(if a1 = v then a1 + 1 else a1, if a2 = v then a2 - 1 else a2), ?_, ?_⟩
  · unfold woI
    exact if_pos (by simp only; omega)
  · simp only
    omega
theorem kept_in {A B t : Iv} {s : Sd} {x y : Int} (hx : InI x A) (hy : InI y B) (h : InI (val x y s) t) : ∃ K, kept (some (A, B)) s t = some K ∧ InI x K.1 ∧ InI y K.2 := by
  cases s with
  | nu v => exact ⟨_, rfl, hx, hy⟩
  | na =>
    obtain ⟨c, e, i, -⟩ := metI_in hx h
    exact ⟨(c, B), by simp [kept, e], i, hy⟩
  | nb =>
    obtain ⟨c, e, i, -⟩ := metI_in hy h
    exact ⟨(A, c), by simp [kept, e], hx, i⟩
theorem unl_in {A B t : Iv} {s : Sd} {x y : Int} (hx : InI x A) (hy : InI y B) (h : t.1 = t.2 → val x y s ≠ t.1) : ∃ K, unl (some (A, B)) s t = some K ∧ InI x K.1 ∧ InI y K.2 := by
  cases s with
  | nu v => exact ⟨_, rfl, hx, hy⟩
  | na =>
    by_cases ht : t.1 = t.2
    · obtain ⟨c, e, i⟩ := woI_in hx (h ht)
      obtain ⟨K, e2, i2⟩ := kept_in (s := .na) hx hy i
      exact ⟨K, by simp only [unl, if_pos ht, e]; exact e2, i2⟩
    · exact ⟨(A, B), by simp only [unl, if_neg ht], hx, hy⟩
  | nb =>
    by_cases ht : t.1 = t.2
    · obtain ⟨c, e, i⟩ := woI_in hy (h ht)
      obtain ⟨K, e2, i2⟩ := kept_in (s := .nb) hx hy i
      exact ⟨K, by simp only [unl, if_pos ht, e]; exact e2, i2⟩
    · exact ⟨(A, B), by simp only [unl, if_neg ht], hx, hy⟩
theorem val_in {A B : Iv} {s : Sd} {x y : Int} (hx : InI x A) (hy : InI y B) : InI (val x y s) (ofS A B s) := by
  cases s with
  | nu v => exact ⟨Int.le_refl _, Int.le_refl _⟩
  | na => exact hx
  | nb => exact hy
/-- what a question comes to -/
def askd (x y : Int) : Qn → Bool
  | .nm => decide (x ≠ 0)
  | .less s t => decide (val x y s < val x y t)
  | .same s t => decide (val x y s = val x y t)
def Wd2 (x y : Int) (q : Qn) : Prop := match q with
  | .nm => True
  | .less s t => (-30000 ≤ val x y s ∧ val x y s ≤ 30000) ∧ (-30000 ≤ val x y t ∧ val x y t ≤ 30000)
  | .same _ _ => True
theorem bhd_in {A B : Iv} {q : Qn} {x y : Int} (hx : InI x A) (hy : InI y B) (hw : Wd2 x y q) : ∃ K, bhd A B q (askd x y q) = some K ∧ InI x K.1 ∧ InI y K.2 := by
  cases q with
  | nm =>
    cases h : askd x y .nm with
    | true =>
      have h : x ≠ 0 := of_decide_eq_true h
      exact unl_in (s := .na) (t := (0, 0)) hx hy fun _ => h
    | false =>
      have h : ¬ x ≠ 0 := of_decide_eq_false h
      have h : x = 0 := by omega
      exact kept_in (s := .na) (t := (0, 0)) hx hy ⟨by show (0 : Int) ≤ x; omega, by show x ≤ 0; omega⟩
  | less s t =>
    have vs := val_in (s := s) hx hy
    have vt := val_in (s := t) hx hy
    unfold InI at vs vt
    simp only [Wd2] at hw
    cases h : askd x y (.less s t) with
    | true =>
      have h : val x y s < val x y t := of_decide_eq_true h
      obtain ⟨⟨A1, B1⟩, e1, i1, j1⟩ := kept_in (s := s) (t := (-32768, (ofS A B t).2 - 1)) hx hy ⟨by simp only; omega, by simp only; omega⟩
      obtain ⟨K, e2, i2⟩ := kept_in (s := t) (t := ((ofS A B s).1 + 1, 32767)) i1 j1 ⟨by simp only; omega, by simp only; omega⟩
      exact ⟨K, by simp only [bhd, e1]; exact e2, i2⟩
    | false =>
      have h : ¬ val x y s < val x y t := of_decide_eq_false h
      obtain ⟨⟨A1, B1⟩, e1, i1, j1⟩ := kept_in (s := s) (t := ((ofS A B t).1, 32767)) hx hy ⟨by simp only; omega, by simp only; omega⟩
      obtain ⟨K, e2, i2⟩ := kept_in (s := t) (t := (-32768, (ofS A B s).2)) i1 j1 ⟨by simp only; omega, by simp only; omega⟩
      exact ⟨K, by simp only [bhd, e1]; exact e2, i2⟩
  | same s t =>
    have vs := val_in (s := s) hx hy
    have vt := val_in (s := t) hx hy
    cases h : askd x y (.same s t) with
    | true =>
      have h : val x y s = val x y t := of_decide_eq_true h
      obtain ⟨⟨A1, B1⟩, e1, i1, j1⟩ := kept_in (s := s) (t := ofS A B t) hx hy (h ▸ vt)
      obtain ⟨K, e2, i2⟩ := kept_in (s := t) (t := ofS A B s) i1 j1 (h ▸ vs)
      exact ⟨K, by simp only [bhd, e1]; exact e2, i2⟩
    | false =>
      have h : ¬ val x y s = val x y t := of_decide_eq_false h
      unfold InI at vs vt
      obtain ⟨⟨A1, B1⟩, e1, i1, j1⟩ := unl_in (s := s) (t := ofS A B t) hx hy (by omega)
      obtain ⟨K, e2, i2⟩ := unl_in (s := t) (t := ofS A B s) i1 j1 (by omega)
      exact ⟨K, by simp only [bhd, e1]; exact e2, i2⟩
end PR

set_option maxRecDepth 100000
set_option maxHeartbeats 2000000
set_option linter.unusedSimpArgs false
namespace PR
open SR
/-! ### the told ends are met -/
theorem metI_some {a b c : Iv} (h : metI a b = some c) : c.1 = (if b.1 > a.1 then b.1 else a.1) ∧ c.2 = (if b.2 < a.2 then b.2 else a.2) ∧ c.1 ≤ c.2 := metO_some h
theorem woI_some {a c : Iv} {v : Int} (h : woI a v = some c) : c.1 = (if a.1 = v then a.1 + 1 else a.1) ∧ c.2 = (if a.2 = v then a.2 - 1 else a.2) ∧ c.1 ≤ c.2 := by
  unfold woI at h
  by_cases hh : (if a.1 = v then a.1 + 1 else a.1) ≤ (if a.2 = v then a.2 - 1 else a.2)
  · rw [if_pos hh] at h
    obtain rfl := Option.some.inj h
    exact ⟨rfl, rfl, hh⟩
  · rw [if_neg hh] at h
    cases h
def KeptR (A B : Iv) (s : Sd) (t : Iv) (K : Iv × Iv) : Prop := match s with
  | .na => K.1.1 = (if t.1 > A.1 then t.1 else A.1) ∧ K.1.2 = (if t.2 < A.2 then t.2 else A.2) ∧ K.1.1 ≤ K.1.2 ∧ K.2 = B
  | .nb => K.2.1 = (if t.1 > B.1 then t.1 else B.1) ∧ K.2.2 = (if t.2 < B.2 then t.2 else B.2) ∧ K.2.1 ≤ K.2.2 ∧ K.1 = A
  | .nu _ => K = (A, B)
theorem kept_r {A B t : Iv} {s : Sd} {K : Iv × Iv} (h : kept (some (A, B)) s t = some K) : KeptR A B s t K := by
  cases s with
  | nu v => exact (Option.some.inj h).symm
  | na =>
    simp only [kept] at h
    cases e : metI A t with
    | none => rw [e] at h; cases h
    | some c =>
      rw [e] at h
      obtain rfl := Option.some.inj h
      have := metI_some e
      exact ⟨this.1, this.2.1, this.2.2, rfl⟩
  | nb =>
    simp only [kept] at h
    cases e : metI B t with
    | none => rw [e] at h; cases h
    | some c =>
      rw [e] at h
      obtain rfl := Option.some.inj h
      have := metI_some e
      exact ⟨this.1, this.2.1, this.2.2, rfl⟩
def UnlR (A B : Iv) (s : Sd) (t : Iv) (K : Iv × Iv) : Prop := match s with
  | .na => K.2 = B ∧ K.1.1 = (if t.1 = t.2 ∧ A.1 = t.1 then A.1 + 1 else A.1) ∧ K.1.2 = (if t.1 = t.2 ∧ A.2 = t.1 then A.2 - 1 else A.2) ∧ (A.1 ≤ A.2 → K.1.1 ≤ K.1.2)
  | .nb => K.1 = A ∧ K.2.1 = (if t.1 = t.2 ∧ B.1 = t.1 then B.1 + 1 else B.1) ∧ K.2.2 = (if t.1 = t.2 ∧ B.2 = t.1 then B.2 - 1 else B.2) ∧ (B.1 ≤ B.2 → K.2.1 ≤ K.2.2)
  | .nu _ => K = (A, B)
theorem unl_r {A B t : Iv} {s : Sd} {K : Iv × Iv} (h : unl (some (A, B)) s t = some K) : UnlR A B s t K := by
  cases s with
  | nu v => exact (Option.some.inj h).symm
  | na =>
    by_cases ht : t.1 = t.2
    · simp only [unl, if_pos ht] at h
      cases e : woI A t.1 with
      | none => rw [e] at h; cases h
      | some x =>
        rw [e] at h
        obtain ⟨w1, w2, w3⟩ := woI_some e
        obtain ⟨k1, k2, k3, k4⟩ := kept_r h
        exact ⟨k4, by omega, by omega, by omega⟩
    · simp only [unl, if_neg ht] at h
      obtain rfl := Option.some.inj h
      exact ⟨rfl, by simp only; omega, by simp only; omega, fun z => z⟩
  | nb =>
    by_cases ht : t.1 = t.2
    · simp only [unl, if_pos ht] at h
      cases e : woI B t.1 with
      | none => rw [e] at h; cases h
      | some x =>
        rw [e] at h
        obtain ⟨w1, w2, w3⟩ := woI_some e
        obtain ⟨k1, k2, k3, k4⟩ := kept_r h
        exact ⟨k4, by omega, by omega, by omega⟩
    · simp only [unl, if_neg ht] at h
      obtain rfl := Option.some.inj h
      exact ⟨rfl, by simp only; omega, by simp only; omega, fun z => z⟩
theorem kept_2 {k : Option (Iv × Iv)} {s : Sd} {t : Iv} {K : Iv × Iv} (h : kept k s t = some K) : ∃ K1, k = some K1 := by
  cases k with
  | none => cases h
  | some k => exact ⟨k, rfl⟩
theorem unl_2 {k : Option (Iv × Iv)} {s : Sd} {t : Iv} {K : Iv × Iv} (h : unl k s t = some K) : ∃ K1, k = some K1 := by
  cases k with
  | none => cases h
  | some k => exact ⟨k, rfl⟩
def isA : Sd → Bool
  | .na => true
  | _ => false
def isBn : Sd → Bool
  | .nb => true
  | _ => false
def hasA : Qn → Bool
  | .nm => true
  | .less s t => isA s || isA t
  | .same s t => isA s || isA t
def hasB : Qn → Bool
  | .nm => false
  | .less s t => isBn s || isBn t
  | .same s t => isBn s || isBn t
def sdEq : Sd → Sd → Bool
  | .na, .na => true
  | .nb, .nb => true
  | .nu v, .nu w => decide (v = w)
  | _, _ => false
def alone : Qn → Bool
  | .nm => true
  | .less s t => !sdEq s t
  | .same s t => !sdEq s t
def SdW : Sd → Prop
  | .nu v => -100 ≤ v ∧ v ≤ 100
  | _ => True
def QnW : Qn → Prop
  | .nm => True
  | .less s t => SdW s ∧ SdW t
  | .same s t => SdW s ∧ SdW t
/-- both ends of each name asked about come of fits -/
def Met (A B : Iv) (q : Qn) (so : Bool) (K : Iv × Iv) : Prop :=
  (hasA q = true → (∃ y, InI y B ∧ InI K.1.1 A ∧ askd K.1.1 y q = so) ∧ ∃ y, InI y B ∧ InI K.1.2 A ∧ askd K.1.2 y q = so) ∧
  (hasB q = true → (∃ x, InI x A ∧ InI K.2.1 B ∧ askd x K.2.1 q = so) ∧ ∃ x, InI x A ∧ InI K.2.2 B ∧ askd x K.2.2 q = so)
def Rest (A B : Iv) (q : Qn) (K : Iv × Iv) : Prop := (hasA q = false → K.1 = A) ∧ (hasB q = false → K.2 = B)
theorem met_lt {A B : Iv} {s t : Sd} {x y : Int} {K : Iv × Iv} (hA : -100 ≤ A.1 ∧ A.2 ≤ 100) (hB : -100 ≤ B.1 ∧ B.2 ≤ 100) (hs : SdW s) (ht : SdW t) (hx : InI x A) (hy : InI y B) (hq : val x y s < val x y t) (ne : sdEq s t = false) (h : bhd A B (.less s t) true = some K) : Met A B (.less s t) true K := by
  obtain ⟨a1, a2⟩ := A
  obtain ⟨b1, b2⟩ := B
  obtain ⟨⟨k1, k2⟩, ⟨k3, k4⟩⟩ := K
  obtain ⟨⟨⟨m1, m2⟩, ⟨m3, m4⟩⟩, e⟩ := kept_2 h
  simp only [bhd] at h
  rw [e] at h
  have r1 := kept_r e
  have r2 := kept_r h
  unfold InI at hx hy
  unfold Met InI
  cases s <;> cases t <;> simp only [sdEq, val, ofS, KeptR, SdW, askd, hasA, hasB, isA, isBn, Bool.or_true, Bool.or_false, Bool.true_or, Bool.false_or, decide_eq_true_eq, Prod.mk.injEq, Bool.false_eq_true, false_implies, true_implies, and_true, true_and, reduceCtorEq, forall_const] at *
  · exact ⟨⟨⟨b2, by omega, by omega, decide_eq_true (by omega)⟩, ⟨b2, by omega, by omega, decide_eq_true (by omega)⟩⟩, ⟨a1, by omega, by omega, decide_eq_true (by omega)⟩, ⟨a1, by omega, by omega, decide_eq_true (by omega)⟩⟩
  · exact ⟨⟨y, by omega, by omega, decide_eq_true (by omega)⟩, ⟨y, by omega, by omega, decide_eq_true (by omega)⟩⟩
  · exact ⟨⟨⟨b1, by omega, by omega, decide_eq_true (by omega)⟩, ⟨b1, by omega, by omega, decide_eq_true (by omega)⟩⟩, ⟨a2, by omega, by omega, decide_eq_true (by omega)⟩, ⟨a2, by omega, by omega, decide_eq_true (by omega)⟩⟩
  · exact ⟨⟨x, by omega, by omega, decide_eq_true (by omega)⟩, ⟨x, by omega, by omega, decide_eq_true (by omega)⟩⟩
  · exact ⟨⟨y, by omega, by omega, decide_eq_true (by omega)⟩, ⟨y, by omega, by omega, decide_eq_true (by omega)⟩⟩
  · exact ⟨⟨x, by omega, by omega, decide_eq_true (by omega)⟩, ⟨x, by omega, by omega, decide_eq_true (by omega)⟩⟩
theorem met_ge {A B : Iv} {s t : Sd} {x y : Int} {K : Iv × Iv} (hA : -100 ≤ A.1 ∧ A.2 ≤ 100) (hB : -100 ≤ B.1 ∧ B.2 ≤ 100) (hs : SdW s) (ht : SdW t) (hx : InI x A) (hy : InI y B) (hq : ¬ val x y s < val x y t) (ne : sdEq s t = false) (h : bhd A B (.less s t) false = some K) : Met A B (.less s t) false K := by
  obtain ⟨a1, a2⟩ := A
  obtain ⟨b1, b2⟩ := B
  obtain ⟨⟨k1, k2⟩, ⟨k3, k4⟩⟩ := K
  obtain ⟨⟨⟨m1, m2⟩, ⟨m3, m4⟩⟩, e⟩ := kept_2 h
  simp only [bhd] at h
  rw [e] at h
  have r1 := kept_r e
  have r2 := kept_r h
  unfold InI at hx hy
  unfold Met InI
  cases s <;> cases t <;> simp only [sdEq, val, ofS, KeptR, SdW, askd, hasA, hasB, isA, isBn, Bool.or_true, Bool.or_false, Bool.true_or, Bool.false_or, decide_eq_false_iff_not, Prod.mk.injEq, Bool.false_eq_true, false_implies, true_implies, and_true, true_and, reduceCtorEq, forall_const] at *
  · exact ⟨⟨⟨b1, by omega, by omega, decide_eq_false (by omega)⟩, ⟨b1, by omega, by omega, decide_eq_false (by omega)⟩⟩, ⟨a2, by omega, by omega, decide_eq_false (by omega)⟩, ⟨a2, by omega, by omega, decide_eq_false (by omega)⟩⟩
  · exact ⟨⟨y, by omega, by omega, decide_eq_false (by omega)⟩, ⟨y, by omega, by omega, decide_eq_false (by omega)⟩⟩
  · exact ⟨⟨⟨b2, by omega, by omega, decide_eq_false (by omega)⟩, ⟨b2, by omega, by omega, decide_eq_false (by omega)⟩⟩, ⟨a1, by omega, by omega, decide_eq_false (by omega)⟩, ⟨a1, by omega, by omega, decide_eq_false (by omega)⟩⟩
  · exact ⟨⟨x, by omega, by omega, decide_eq_false (by omega)⟩, ⟨x, by omega, by omega, decide_eq_false (by omega)⟩⟩
  · exact ⟨⟨y, by omega, by omega, decide_eq_false (by omega)⟩, ⟨y, by omega, by omega, decide_eq_false (by omega)⟩⟩
  · exact ⟨⟨x, by omega, by omega, decide_eq_false (by omega)⟩, ⟨x, by omega, by omega, decide_eq_false (by omega)⟩⟩
theorem met_eq {A B : Iv} {s t : Sd} {x y : Int} {K : Iv × Iv} (hx : InI x A) (hy : InI y B) (hq : val x y s = val x y t) (ne : sdEq s t = false) (h : bhd A B (.same s t) true = some K) : Met A B (.same s t) true K := by
  obtain ⟨a1, a2⟩ := A
  obtain ⟨b1, b2⟩ := B
  obtain ⟨⟨k1, k2⟩, ⟨k3, k4⟩⟩ := K
  obtain ⟨⟨⟨m1, m2⟩, ⟨m3, m4⟩⟩, e⟩ := kept_2 h
  simp only [bhd] at h
  rw [e] at h
  have r1 := kept_r e
  have r2 := kept_r h
  unfold InI at hx hy
  unfold Met InI
  cases s <;> cases t <;> simp only [sdEq, val, ofS, KeptR, askd, hasA, hasB, isA, isBn, Bool.or_true, Bool.or_false, Bool.true_or, Bool.false_or, decide_eq_true_eq, Prod.mk.injEq, Bool.false_eq_true, false_implies, true_implies, and_true, true_and, reduceCtorEq, forall_const] at *
  · exact ⟨⟨⟨k1, by omega, by omega, decide_eq_true (by omega)⟩, ⟨k2, by omega, by omega, decide_eq_true (by omega)⟩⟩, ⟨k3, by omega, by omega, decide_eq_true (by omega)⟩, ⟨k4, by omega, by omega, decide_eq_true (by omega)⟩⟩
  · exact ⟨⟨y, by omega, by omega, decide_eq_true (by omega)⟩, ⟨y, by omega, by omega, decide_eq_true (by omega)⟩⟩
  · exact ⟨⟨⟨k1, by omega, by omega, decide_eq_true (by omega)⟩, ⟨k2, by omega, by omega, decide_eq_true (by omega)⟩⟩, ⟨k3, by omega, by omega, decide_eq_true (by omega)⟩, ⟨k4, by omega, by omega, decide_eq_true (by omega)⟩⟩
  · exact ⟨⟨x, by omega, by omega, decide_eq_true (by omega)⟩, ⟨x, by omega, by omega, decide_eq_true (by omega)⟩⟩
  · exact ⟨⟨y, by omega, by omega, decide_eq_true (by omega)⟩, ⟨y, by omega, by omega, decide_eq_true (by omega)⟩⟩
  · exact ⟨⟨x, by omega, by omega, decide_eq_true (by omega)⟩, ⟨x, by omega, by omega, decide_eq_true (by omega)⟩⟩
theorem met_ne {A B : Iv} {s t : Sd} {x y : Int} {K : Iv × Iv} (hx : InI x A) (hy : InI y B) (hq : ¬ val x y s = val x y t) (ne : sdEq s t = false) (h : bhd A B (.same s t) false = some K) : Met A B (.same s t) false K := by
  obtain ⟨a1, a2⟩ := A
  obtain ⟨b1, b2⟩ := B
  obtain ⟨⟨k1, k2⟩, ⟨k3, k4⟩⟩ := K
  obtain ⟨⟨⟨m1, m2⟩, ⟨m3, m4⟩⟩, e⟩ := unl_2 h
  simp only [bhd] at h
  rw [e] at h
  have r1 := unl_r e
  have r2 := unl_r h
  unfold InI at hx hy
  unfold Met InI
  cases s <;> cases t <;> simp only [sdEq, val, ofS, UnlR, askd, hasA, hasB, isA, isBn, Bool.or_true, Bool.or_false, Bool.true_or, Bool.false_or, decide_eq_false_iff_not, Prod.mk.injEq, Bool.false_eq_true, false_implies, true_implies, and_true, true_and, reduceCtorEq, forall_const] at *
  · exact ⟨⟨⟨if b1 = k1 then b2 else b1, by omega, by omega, decide_eq_false (by omega)⟩, ⟨if b1 = k2 then b2 else b1, by omega, by omega, decide_eq_false (by omega)⟩⟩, ⟨if a1 = k3 then a2 else a1, by omega, by omega, decide_eq_false (by omega)⟩, ⟨if a1 = k4 then a2 else a1, by omega, by omega, decide_eq_false (by omega)⟩⟩
  · exact ⟨⟨y, by omega, by omega, decide_eq_false (by omega)⟩, ⟨y, by omega, by omega, decide_eq_false (by omega)⟩⟩
  · exact ⟨⟨⟨if b1 = k1 then b2 else b1, by omega, by omega, decide_eq_false (by omega)⟩, ⟨if b1 = k2 then b2 else b1, by omega, by omega, decide_eq_false (by omega)⟩⟩, ⟨if a1 = k3 then a2 else a1, by omega, by omega, decide_eq_false (by omega)⟩, ⟨if a1 = k4 then a2 else a1, by omega, by omega, decide_eq_false (by omega)⟩⟩
  · exact ⟨⟨x, by omega, by omega, decide_eq_false (by omega)⟩, ⟨x, by omega, by omega, decide_eq_false (by omega)⟩⟩
  · exact ⟨⟨y, by omega, by omega, decide_eq_false (by omega)⟩, ⟨y, by omega, by omega, decide_eq_false (by omega)⟩⟩
  · exact ⟨⟨x, by omega, by omega, decide_eq_false (by omega)⟩, ⟨x, by omega, by omega, decide_eq_false (by omega)⟩⟩
theorem met_nm {A B : Iv} {so : Bool} {x y : Int} {K : Iv × Iv} (hx : InI x A) (hy : InI y B) (hq : askd x y .nm = so) (h : bhd A B .nm so = some K) : Met A B .nm so K := by
  obtain ⟨a1, a2⟩ := A
  obtain ⟨b1, b2⟩ := B
  obtain ⟨⟨k1, k2⟩, ⟨k3, k4⟩⟩ := K
  cases so with
  | true =>
    have r := unl_r (s := .na) (t := (0, 0)) h
    unfold InI at hx hy
    unfold Met InI
    simp only [UnlR, askd, hasA, hasB, decide_eq_true_eq, Prod.mk.injEq, Bool.false_eq_true, false_implies, true_implies, and_true, true_and, reduceCtorEq, forall_const] at *
    exact ⟨⟨y, by omega, by omega, by omega⟩, ⟨y, by omega, by omega, by omega⟩⟩
  | false =>
    have r := kept_r (s := .na) (t := (0, 0)) h
    unfold InI at hx hy
    unfold Met InI
    simp only [KeptR, askd, hasA, hasB, decide_eq_false_iff_not, Prod.mk.injEq, Bool.false_eq_true, false_implies, true_implies, and_true, true_and, reduceCtorEq, forall_const, Classical.not_not] at *
    exact ⟨⟨y, by omega, by omega, by omega⟩, ⟨y, by omega, by omega, by omega⟩⟩
theorem bhd_met {A B : Iv} {q : Qn} {so : Bool} {x y : Int} {K : Iv × Iv} (hA : -100 ≤ A.1 ∧ A.2 ≤ 100) (hB : -100 ≤ B.1 ∧ B.2 ≤ 100) (hw : QnW q) (hx : InI x A) (hy : InI y B) (hq : askd x y q = so) (ne : alone q = true) (h : bhd A B q so = some K) : Met A B q so K := by
  cases q with
  | nm => exact met_nm hx hy hq h
  | less s t =>
    have ne : sdEq s t = false := by simpa [alone] using ne
    cases so with
    | true => exact met_lt hA hB hw.1 hw.2 hx hy (of_decide_eq_true hq) ne h
    | false => exact met_ge hA hB hw.1 hw.2 hx hy (of_decide_eq_false hq) ne h
  | same s t =>
    have ne : sdEq s t = false := by simpa [alone] using ne
    cases so with
    | true => exact met_eq hx hy (of_decide_eq_true hq) ne h
    | false => exact met_ne hx hy (of_decide_eq_false hq) ne h
theorem kept_rest {A B : Iv} {s : Sd} {t : Iv} {K : Iv × Iv} (h : kept (some (A, B)) s t = some K) : (isA s = false → K.1 = A) ∧ (isBn s = false → K.2 = B) := by
  have r := kept_r h
  cases s with
  | na => exact ⟨nofun, fun _ => r.2.2.2⟩
  | nb => exact ⟨fun _ => r.2.2.2, nofun⟩
  | nu v => exact ⟨fun _ => by rw [show K = (A, B) from r], fun _ => by rw [show K = (A, B) from r]⟩
theorem unl_rest {A B : Iv} {s : Sd} {t : Iv} {K : Iv × Iv} (h : unl (some (A, B)) s t = some K) : (isA s = false → K.1 = A) ∧ (isBn s = false → K.2 = B) := by
  have r := unl_r h
  cases s with
  | na => exact ⟨nofun, fun _ => r.1⟩
  | nb => exact ⟨fun _ => r.1, nofun⟩
  | nu v => exact ⟨fun _ => by rw [show K = (A, B) from r], fun _ => by rw [show K = (A, B) from r]⟩
theorem bhd_rest {A B : Iv} {q : Qn} {so : Bool} {K : Iv × Iv} (h : bhd A B q so = some K) : Rest A B q K := by
  have two : ∀ {s t : Sd} {K1 : Iv × Iv}, ((isA s = false → K1.1 = A) ∧ (isBn s = false → K1.2 = B)) → ((isA t = false → K.1 = K1.1) ∧ (isBn t = false → K.2 = K1.2)) → (((isA s || isA t) = false → K.1 = A) ∧ ((isBn s || isBn t) = false → K.2 = B)) := by
    intro s t K1 h1 h2
    refine ⟨fun e => ?_, fun e => ?_⟩
    · rw [Bool.or_eq_false_iff] at e
      rw [h2.1 e.2, h1.1 e.1]
    · rw [Bool.or_eq_false_iff] at e
      rw [h2.2 e.2, h1.2 e.1]
  cases q with
  | nm =>
    cases so with
    | true => exact ⟨nofun, fun _ => (unl_rest (s := .na) (t := (0, 0)) (A := A) (B := B) h).2 rfl⟩
    | false => exact ⟨nofun, fun _ => (kept_rest (s := .na) (t := (0, 0)) (A := A) (B := B) h).2 rfl⟩
  | less s t =>
    cases so with
    | true =>
      obtain ⟨⟨A1, B1⟩, e⟩ := kept_2 h
      simp only [bhd] at h
      rw [e] at h
      exact two (kept_rest e) (kept_rest h)
    | false =>
      obtain ⟨⟨A1, B1⟩, e⟩ := kept_2 h
      simp only [bhd] at h
      rw [e] at h
      exact two (kept_rest e) (kept_rest h)
  | same s t =>
    cases so with
    | true =>
      obtain ⟨⟨A1, B1⟩, e⟩ := kept_2 h
      simp only [bhd] at h
      rw [e] at h
      exact two (kept_rest e) (kept_rest h)
    | false =>
      obtain ⟨⟨A1, B1⟩, e⟩ := unl_2 h
      simp only [bhd] at h
      rw [e] at h
      exact two (unl_rest e) (unl_rest h)
end PR

set_option maxRecDepth 100000
set_option maxHeartbeats 2000000
set_option linter.unusedSimpArgs false
namespace PR
open SR
/-! ### sides and questions drawn, and what they come to -/
theorem c49 {n : Nat} {S : Sto} {ns : List Int} {i : Int} (h0 : 0 ≤ i) : ∃ s : Sd, SdW s ∧ callN G D (n+3) 49 [.sh (.lst (ns.map .int)), .sh (.int i)] S = .ok (enSd s) .sh S := by
  obtain ⟨v0, g0, p0⟩ := f9 (n := n) (S := S) (ns := ns) (i := i) (many := 3) h0 (by decide)
  obtain ⟨v1, g1, p1⟩ := f9 (n := n) (S := S) (ns := ns) (i := i + 1) (many := 2) (by omega) (by decide)
  obtain ⟨v2, g2, p2⟩ := f9 (n := n) (S := S) (ns := ns) (i := i + 2) (many := 9) (by omega) (by decide)
  have i0 : item (.lst [.str [97], .str [98]]) (.int 0) = some (.str [97]) := rfl
  have i1 : item (.lst [.str [97], .str [98]]) (.int 1) = some (.str [98]) := rfl
  rw [run_eq (d := d49) rfl rfl]
  by_cases h : 0 < v0
  · have hv : v1 = 0 ∨ v1 = 1 := by omega
    rcases hv with rfl | rfl
    · exact ⟨.na, trivial, by simp [d49, p0, h, p1, enSd, i0]⟩
    · exact ⟨.nb, trivial, by simp [d49, p0, h, p1, enSd, i1]⟩
  · exact ⟨.nu (v2 - 4), ⟨by omega, by omega⟩, by simp [d49, p0, h, p2, enSd]⟩
def two (x y : Int) : PV := .dct [(.str [97], .int x), (.str [98], .int y)]
theorem tA {x y : Int} : item (two x y) (.str [97]) = some (.int x) := rfl
theorem tB {x y : Int} : item (two x y) (.str [98]) = some (.int y) := rfl
theorem c50s {n : Nat} {S : Sto} {s : Sd} {x y : Int} : callN G D (n+1) 50 [.sh (enSd s), .sh (two x y)] S = .ok (.int (val x y s)) .sh S := by
  rw [run_eq (d := d50) rfl rfl]
  have v2 : view S (two x y) = two x y := rfl
  cases s <;> simp [d50, enSd, val, v2, tA, tB]
def soV (x y : Int) : Qn → Int
  | .nm => x
  | .less s t => rk 4 (val x y s) (val x y t)
  | .same s t => rk 5 (val x y s) (val x y t)
theorem c50 {n : Nat} {S : Sto} {q : Qn} {x y : Int} (hx : -1000 ≤ x ∧ x ≤ 1000) (hy : -1000 ≤ y ∧ y ≤ 1000) (hq : QnW q) : callN G D (n+2) 50 [.sh (enQn q), .sh (two x y)] S = .ok (.int (soV x y q)) .sh S := by
  have bd : ∀ s, SdW s → -1000000000 < val x y s ∧ val x y s < 1000000000 := by
    intro s hs
    cases s <;> simp only [val, SdW] at * <;> omega
  rw [run_eq (d := d50) rfl rfl]
  have v2 : view S (two x y) = two x y := rfl
  cases q with
  | nm => simp [d50, enQn, soV, v2, tA]
  | less s t =>
    have c := f10 (n := n) (S := S) (bd s hq.1) (bd t hq.2) 4 (by decide) (fun h => absurd h (by decide))
    have w : (PV.str [108, 101, 115, 115]) = .str (wd 4) := rfl
    simp [d50, enQn, soV, c50s, vS, v2]
    rw [w, c]
    rfl
  | same s t =>
    have c := f10 (n := n) (S := S) (bd s hq.1) (bd t hq.2) 5 (by decide) (fun h => absurd h (by decide))
    have w : (PV.str [115, 97, 109, 101]) = .str (wd 5) := rfl
    simp [d50, enQn, soV, c50s, vS, v2]
    rw [w, c]
    rfl
theorem soV_ne {x y : Int} {q : Qn} : (decide (soV x y q ≠ 0)) = askd x y q := by
  cases q with
  | nm => rfl
  | less s t => simp only [soV, rk, askd]; by_cases h : val x y s < val x y t <;> simp [h]
  | same s t => simp only [soV, rk, askd]; by_cases h : val x y s = val x y t <;> simp [h]
theorem c48 {n : Nat} {S : Sto} {A B C : Iv} {q : Qn} {so : Bool} : ∃ m, (m = .sh ∨ m = .own) ∧ callN G D (n+4) 48 [.sh (enQn q), .sh (.dct (bk A B C)), .sh (.bl so)] S = .ok (enO C (bhd A B q so)) m S := by
  cases q with
  | nm => exact c48n
  | less s t => cases so with
    | true => exact c48lt
    | false => exact c48lf
  | same s t => cases so with
    | true => exact c48st
    | false => exact c48sf
theorem c51 {n : Nat} {S : Sto} {l : List Int} {sl : Sl} (hs : share sl = .sh (.lst (l.map .int))) : callN G D (n+1) 51 [sl] S = .ok (toP (hullO l)) .sh S := by
  rw [run_eq (d := d51) rfl rfl, List.map_cons, hs]
  cases l with
  | nil => rfl
  | cons x l =>
    have e := intsOf_map (x :: l)
    obtain ⟨a, ha⟩ := minI_cons x l
    obtain ⟨b, hb⟩ := maxI_cons x l
    have h1 : bi .minL [.lst ((x :: l).map .int)] = some (.int a, .sh) := by
      show (((intsOf (.int x :: l.map .int)).bind minI).map fun i => (PV.int i, Md.sh)) = _
      rw [show (PV.int x :: l.map .int) = (x :: l).map .int from rfl, e, Option.bind_some, ha]
      rfl
    have h2 : bi .maxL [.lst ((x :: l).map .int)] = some (.int b, .sh) := by
      show (((intsOf (.int x :: l.map .int)).bind maxI).map fun i => (PV.int i, Md.sh)) = _
      rw [show (PV.int x :: l.map .int) = (x :: l).map .int from rfl, e, Option.bind_some, hb]
      rfl
    have dd : datas ((x :: l).map PV.int) = true := datas_ints _
    simp only [List.map_cons] at h1 h2 dd
    simp [d51, hullO, ha, hb, h1, h2, dd]
theorem minI_mem {m : Int} : ∀ {l : List Int}, minI l = some m → m ∈ l ∧ ∀ x ∈ l, m ≤ x := by
  intro l
  induction l generalizing m with
  | nil => intro h; cases h
  | cons x l ih =>
    intro h
    unfold minI at h
    cases e : minI l with
    | none =>
      rw [e] at h
      obtain rfl := Option.some.inj h
      cases l with
      | nil => exact ⟨List.mem_cons_self, by intro y hy; rcases List.mem_cons.mp hy with rfl | hy; exact Int.le_refl _; cases hy⟩
      | cons z l => obtain ⟨w, hw⟩ := minI_cons z l; rw [hw] at e; cases e
    | some k =>
      rw [e] at h
      obtain ⟨i1, i2⟩ := ih e
      have hm := Option.some.inj h
      by_cases c : k < x
      · rw [if_pos c] at hm
        subst hm
        exact ⟨List.mem_cons_of_mem _ i1, by intro y hy; rcases List.mem_cons.mp hy with rfl | hy; omega; exact i2 y hy⟩
      · rw [if_neg c] at hm
        subst hm
        exact ⟨List.mem_cons_self, by intro y hy; rcases List.mem_cons.mp hy with rfl | hy; omega; have := i2 y hy; omega⟩
theorem hull_some {l : List Int} {p : Int × Int} (h : hullO l = some p) : (p.1 ∈ l ∧ ∀ x ∈ l, p.1 ≤ x) ∧ (p.2 ∈ l ∧ ∀ x ∈ l, x ≤ p.2) := by
  unfold hullO at h
  cases e1 : minI l with
  | none => rw [e1] at h; cases h
  | some a =>
    cases e2 : maxI l with
    | none => rw [e1, e2] at h; cases h
    | some b =>
      rw [e1, e2] at h
      obtain rfl := Option.some.inj h
      refine ⟨minI_mem e1, ?_⟩
      rw [maxI_neg] at e2
      cases e3 : minI (l.map fun x => -x) with
      | none => rw [e3] at e2; cases e2
      | some c =>
        rw [e3] at e2
        have hb : -c = b := Option.some.inj e2
        obtain ⟨i1, i2⟩ := minI_mem e3
        obtain ⟨y, hy, hyc⟩ := List.mem_map.mp i1
        refine ⟨?_, fun x hx => ?_⟩
        · have : y = b := by omega
          exact this ▸ hy
        · have := i2 (-x) (List.mem_map.mpr ⟨x, hx, rfl⟩)
          show x ≤ b
          omega
/-! ### the fits -/
def fitsA (A : List Int) (B : Iv) (q : Qn) (so : Bool) (w : Nat) : List (Int × Int) := A.flatMap fun x => ((rng B.1 w).filter fun y => askd x y q == so).map fun y => (x, y)
def enF (p : Int × Int) : PV := .tup [.int p.1, .int p.2]
theorem fits_len {A : List Int} {B : Iv} {q : Qn} {so : Bool} {w : Nat} : (fitsA A B q so w).length ≤ A.length * w := by
  unfold fitsA
  induction A with
  | nil => simp
  | cons x A ih =>
    rw [List.flatMap_cons, List.length_append, List.length_map, List.length_cons, Nat.succ_mul]
    have := List.length_filter_le (fun y => askd x y q == so) (rng B.1 w)
    have e : (rng B.1 w).length = w := by simp [rng]
    omega
def env0 (ns bo : PV) (q : Qn) (so : Bool) (L : List PV) (x : Sl) : Env := [.sh ns, .sh bo, .un, .un, .un, .sh (enQn q), .sh (.bl so), .own (.lst L), x, .un, .un, .un, .un, .un, .un, .un, .un, .un]
theorem e52_1 {n : Nat} {S : Sto} {ns bo : PV} {q : Qn} {so : Bool} {L : List PV} {x y : Int} (hx : -1000 ≤ x ∧ x ≤ 1000) (hy : -1000 ≤ y ∧ y ≤ 1000) (hq : QnW q) (hl : L.length < 16000000) :
    exB G (callN G D (n+2)) b52_1 [.sh ns, .sh bo, .un, .un, .un, .sh (enQn q), .sh (.bl so), .own (.lst L), .sh (.int x), .un, .un, .un, .sh (.int y), .un, .un, .un, .un, .un] S = .nx (env0 ns bo q so (if (askd x y q == so) = true then L ++ [enF (x, y)] else L) (.sh (.int x))) S := by
  have c := c50 (n := n) (S := S) hx hy hq
  have c' : callN G D (n+2) 50 [.sh (enQn q), .own (.dct (dictOf [(.str [97], .int x), (.str [98], .int y)]))] S = .ok (.int (soV x y q)) .sh S := (callN_share (vs := [.sh (enQn q), .own (two x y)])).symm.trans c
  have hs := soV_ne (x := x) (y := y) (q := q)
  have vq : view S (enQn q) = enQn q := by cases q <;> rfl
  unfold PR.b52_1
  by_cases hz : soV x y q = 0
  · have ha : askd x y q = false := by rw [← hs]; simp [hz]
    cases so with
    | true =>
      simp only [ha]
      refine seq_to (r1 := [.sh ns, .sh bo, .un, .un, .un, .sh (enQn q), .sh (.bl true), .own (.lst L), .sh (.int x), .un, .un, .un, .sh (.int y), .un, .un, .un, .un, .un]) (S1 := S) (ife_f (S1 := S) ?_ rfl) ?_
      · simp [c', hz]
      · simp [setS, env0]
    | false =>
      simp only [ha]
      refine seq_to (r1 := [.sh ns, .sh bo, .un, .un, .un, .sh (enQn q), .sh (.bl false), .own (.lst (L ++ [enF (x, y)])), .sh (.int x), .un, .un, .un, .sh (.int y), .un, .un, .un, .un, .un]) (S1 := S) (ife_t (S1 := S) ?_ ?_) ?_
      · simp [c', hz]
      · simp [setS, hl, lim, enF]
      · simp [setS, env0]
  · have ha : askd x y q = true := by rw [← hs]; simp [hz]
    cases so with
    | false =>
      simp only [ha]
      refine seq_to (r1 := [.sh ns, .sh bo, .un, .un, .un, .sh (enQn q), .sh (.bl false), .own (.lst L), .sh (.int x), .un, .un, .un, .sh (.int y), .un, .un, .un, .un, .un]) (S1 := S) (ife_f (S1 := S) ?_ rfl) ?_
      · simp [c', hz]
      · simp [setS, env0]
    | true =>
      simp only [ha]
      refine seq_to (r1 := [.sh ns, .sh bo, .un, .un, .un, .sh (enQn q), .sh (.bl true), .own (.lst (L ++ [enF (x, y)])), .sh (.int x), .un, .un, .un, .sh (.int y), .un, .un, .un, .un, .un]) (S1 := S) (ife_t (S1 := S) ?_ ?_) ?_
      · simp [c', hz]
      · simp [setS, hl, lim, enF]
      · simp [setS, env0]
def rgR2 (v : PV) : Res → IRes
  | .ok u _ S => match v, u with
    | .int i, .int j => if -4611686018427387904 ≤ i ∧ i < 4611686018427387904 ∧ -4611686018427387904 ≤ j ∧ j < 4611686018427387904 then .ok (range i (j - i).toNat) S else .bad
    | _, _ => .bad
  | .exc c S => .exc c S
  | .bad => .bad
def rgR (k : Sto → Res) : Res → IRes
  | .ok v _ S => rgR2 v (k S)
  | .exc c S => .exc c S
  | .bad => .bad
@[simp] theorem rgR_ok {k : Sto → Res} {i : PV} {m : Md} {S : Sto} : rgR k (.ok i m S) = rgR2 i (k S) := rfl
@[simp] theorem rgR2_ok {i j : Int} {m : Md} {S : Sto} : rgR2 (.int i) (.ok (.int j) m S) = if -4611686018427387904 ≤ i ∧ i < 4611686018427387904 ∧ -4611686018427387904 ≤ j ∧ j < 4611686018427387904 then .ok (range i (j - i).toNat) S else .bad := rfl
theorem evI_rng2 {G : Prg} {Φ : Phi} {b : Bool} {r : Env} {S : Sto} {e f : CE} : evI G Φ b (.rng2 e f) r S = rgR (evE G Φ f r) (evE G Φ e r S) := by
  simp only [evI]
  cases evE G Φ e r S with
  | ok v m S1 =>
    simp only [Res.bindI, rgR_ok]
    cases evE G Φ f r S1 <;> rfl
  | exc c S => rfl
  | bad => rfl
theorem i0v {t : Iv} : item (iv t) (.int 0) = some (.int t.1) := rfl
/-- a row of fits -/
def rowF (B : Iv) (q : Qn) (so : Bool) (w : Nat) (x : Int) : List (Int × Int) := ((rng B.1 w).filter fun y => askd x y q == so).map fun y => (x, y)
theorem e52_2 {n : Nat} {S : Sto} {ns : PV} {q : Qn} {so : Bool} {A B C : Iv} {w : Nat} {L : List (Int × Int)} {x : Int} (hx : -1000 ≤ x ∧ x ≤ 1000) (hB : -100 ≤ B.1 ∧ B.2 ≤ 100) (hw : B.2 + 1 = B.1 + w) (hw5 : w ≤ 5) (hq : QnW q) (hl : L.length < 15000000) :
    exB G (callN G D (n+2)) b52_2 (env0 ns (.dct (bk A B C)) q so (L.map enF) (.sh (.int x))) S = .nx (env0 ns (.dct (bk A B C)) q so ((L ++ rowF B q so w x).map enF) .un) S := by
  have lp : forT (.nm 12) (exB G (callN G D (n+2))  b52_1) ((rng B.1 w).map .int) (env0 ns (.dct (bk A B C)) q so (L.map enF) (.sh (.int x))) S = .nx (env0 ns (.dct (bk A B C)) q so ((L ++ rowF B q so w x).map enF) (.sh (.int x))) S := by
    have := forT_pre (e := PV.int) (t := .nm 12) (body := exB G (callN G D (n+2)) b52_1) (R := fun pre => env0 ns (.dct (bk A B C)) q so ((L ++ ((pre.filter fun y => askd x y q == so).map fun y => (x, y))).map enF) (.sh (.int x))) (S := fun _ => S) (xs := rng B.1 w) ?_
    · simpa [rowF] using this
    · intro pre y post hp
      have hy : y ∈ rng B.1 w := by rw [hp]; simp
      have hy := mem_rng.mp hy
      have hl2 : pre.length < w := by
        have := congrArg List.length hp
        simp [rng] at this
        omega
      have eb : bindG S (.nm 12) (.int y) (env0 ns (.dct (bk A B C)) q so ((L ++ ((pre.filter fun y => askd x y q == so).map fun y => (x, y))).map enF) (.sh (.int x))) = some [.sh ns, .sh (.dct (bk A B C)), .un, .un, .un, .sh (enQn q), .sh (.bl so), .own (.lst ((L ++ ((pre.filter fun y => askd x y q == so).map fun y => (x, y))).map enF)), .sh (.int x), .un, .un, .un, .sh (.int y), .un, .un, .un, .un, .un] := rfl
      have fl := List.length_filter_le (fun y => askd x y q == so) pre
      rw [eb, forO_some, e52_1 hx (by omega) hq (by rw [List.length_map, List.length_append, List.length_map]; omega)]
      congr 2
      rw [List.filter_append]
      by_cases h : (askd x y q == so) = true
      · rw [if_pos h]; simp [h]
      · rw [if_neg h]; simp [h]
  have rr : range B.1 (B.2 + 1 - B.1).toNat = (rng B.1 w).map .int := by
    rw [range_rng]
    congr 2
    omega
  have b1 : -4611686018427387904 ≤ B.1 ∧ B.1 < 4611686018427387904 ∧ -4611686018427387904 ≤ B.2 + 1 ∧ B.2 + 1 < 4611686018427387904 := by omega
  unfold PR.b52_2
  refine seq_to (r1 := env0 ns (.dct (bk A B C)) q so (L.map enF) (.sh (.int x))) (S1 := S) (by simp [env0, setS]) ?_
  refine seq_to (r1 := env0 ns (.dct (bk A B C)) q so ((L ++ rowF B q so w x).map enF) (.sh (.int x))) (S1 := S) ?_ ?_
  · rw [exS_for]
    have it : evI G (callN G D (n+2)) false (.rng2 (.sub (.sub (.var 1) (.lit (.str [98]))) (.lit (.int 0))) (.bin .add (.sub (.sub (.var 1) (.lit (.str [98]))) (.lit (.int 1))) (.lit (.int 1)))) (env0 ns (.dct (bk A B C)) q so (L.map enF) (.sh (.int x))) S = .ok ((rng B.1 w).map .int) S := by
      simp [evI_rng2, env0, vD, gB, vI, i0, i1, rr, b1]
    rw [it, forR_ok]
    exact lp
  · simp [env0, setS]
theorem e52_o {n : Nat} {S : Sto} {ns : PV} {q : Qn} {so : Bool} {A B C : Iv} {u w : Nat} (hA : -100 ≤ A.1 ∧ A.2 ≤ 100) (hB : -100 ≤ B.1 ∧ B.2 ≤ 100) (hu : A.2 + 1 = A.1 + u) (hu5 : u ≤ 5) (hw : B.2 + 1 = B.1 + w) (hw5 : w ≤ 5) (hq : QnW q) :
    exS G (callN G D (n+2)) (.for_ (.nm 8) (.rng2 (.sub (.sub (.var 1) (.lit (.str [97]))) (.lit (.int 0))) (.bin .add (.sub (.sub (.var 1) (.lit (.str [97]))) (.lit (.int 1))) (.lit (.int 1)))) b52_2) (env0 ns (.dct (bk A B C)) q so [] .un) S = .nx (env0 ns (.dct (bk A B C)) q so ((fitsA (rng A.1 u) B q so w).map enF) .un) S := by
  have lp : forT (.nm 8) (exB G (callN G D (n+2)) b52_2) ((rng A.1 u).map .int) (env0 ns (.dct (bk A B C)) q so [] .un) S = .nx (env0 ns (.dct (bk A B C)) q so ((fitsA (rng A.1 u) B q so w).map enF) .un) S := by
    refine forT_pre (e := PV.int) (t := .nm 8) (body := exB G (callN G D (n+2)) b52_2) (R := fun pre => env0 ns (.dct (bk A B C)) q so ((fitsA pre B q so w).map enF) .un) (S := fun _ => S) (xs := rng A.1 u) ?_
    intro pre x post hp
    have hx : x ∈ rng A.1 u := by rw [hp]; simp
    have hx := mem_rng.mp hx
    have hl2 : pre.length < u := by
      have := congrArg List.length hp
      simp [rng] at this
      omega
    have fl := fits_len (A := pre) (B := B) (q := q) (so := so) (w := w)
    have : pre.length * w ≤ 5 * 5 := Nat.mul_le_mul (by omega) hw5
    have eb : bindG S (.nm 8) (.int x) (env0 ns (.dct (bk A B C)) q so ((fitsA pre B q so w).map enF) .un) = some (env0 ns (.dct (bk A B C)) q so ((fitsA pre B q so w).map enF) (.sh (.int x))) := rfl
    rw [eb, forO_some, e52_2 (w := w) (by omega) hB hw hw5 hq (by omega)]
    have e : fitsA (pre ++ [x]) B q so w = fitsA pre B q so w ++ rowF B q so w x := by
      unfold fitsA rowF
      rw [List.flatMap_append, List.flatMap_cons, List.flatMap_nil, List.append_nil]
    rw [e]
  have rr : range A.1 (A.2 + 1 - A.1).toNat = (rng A.1 u).map .int := by
    rw [range_rng]
    congr 2
    omega
  have b1 : -4611686018427387904 ≤ A.1 ∧ A.1 < 4611686018427387904 ∧ -4611686018427387904 ≤ A.2 + 1 ∧ A.2 + 1 < 4611686018427387904 := by omega
  rw [exS_for]
  have it : evI G (callN G D (n+2)) false (.rng2 (.sub (.sub (.var 1) (.lit (.str [97]))) (.lit (.int 0))) (.bin .add (.sub (.sub (.var 1) (.lit (.str [97]))) (.lit (.int 1))) (.lit (.int 1)))) (env0 ns (.dct (bk A B C)) q so [] .un) S = .ok ((rng A.1 u).map .int) S := by
    simp [evI_rng2, env0, vD, gA, vI, i0, i1, rr, b1]
  rw [it, forR_ok]
  exact lp
theorem mem_fits {A B : Iv} {q : Qn} {so : Bool} {u w : Nat} (hu : A.2 + 1 = A.1 + u) (hw : B.2 + 1 = B.1 + w) {p : Int × Int} : p ∈ fitsA (rng A.1 u) B q so w ↔ InI p.1 A ∧ InI p.2 B ∧ askd p.1 p.2 q = so := by
  obtain ⟨x, y⟩ := p
  unfold fitsA InI
  simp only [List.mem_flatMap, List.mem_map, List.mem_filter, mem_rng, Prod.mk.injEq]
  constructor
  · rintro ⟨a, ha, b, ⟨hb, hc⟩, rfl, rfl⟩
    exact ⟨by omega, by omega, by simpa using hc⟩
  · rintro ⟨ha, hb, hc⟩
    exact ⟨x, by omega, y, ⟨by omega, by simp [hc]⟩, rfl, rfl⟩
end PR

set_option maxRecDepth 100000
set_option maxHeartbeats 2000000
set_option linter.unusedSimpArgs false
namespace PR
open SR
def nmS : Sd → List Tx
  | .na => [[97]]
  | .nb => [[98]]
  | .nu _ => []
def nmQ : Qn → List Tx
  | .nm => [[97]]
  | .less s t => nmS s ++ nmS t
  | .same s t => nmS s ++ nmS t
abbrev eNm : CE := .lcf (.sub (.var 16) (.lit (.int 1))) (.nm 16) (.seq (.ite (.cm .eq (.sub (.var 5) (.lit (.int 0))) (.lit (.str [110, 97, 109, 101]))) (.lst (.cons (.var 5) .nil)) (.slcL (.var 5) (.lit (.int 1))))) (.cm .eq (.sub (.var 16) (.lit (.int 0))) (.lit (.str [110, 97, 109, 101])))
theorem nms_ev {Φ : Phi} {S : Sto} {q : Qn} {s0 s1 s2 s3 s4 s6 s7 s8 s9 s10 s11 s12 s13 s14 s15 s17 : Sl} : evE G Φ eNm [s0, s1, s2, s3, s4, .sh (enQn q), s6, s7, s8, s9, s10, s11, s12, s13, s14, s15, .un, s17] S = .ok (.lst ((nmQ q).map .str)) .own S := by
  have sl : ∀ a b c, slice (some 1) none true (.tup [a, b, c]) = some (.tup [b, c], .sh) := fun _ _ _ => rfl
  cases q with
  | nm => simp [eNm, enQn, lcI, lcfT_eq, setS, nmQ, lim]
  | less s t => cases s <;> cases t <;> simp [eNm, enQn, enSd, lcI, lcfT_eq, setS, nmQ, nmS, lim, sl]
  | same s t => cases s <;> cases t <;> simp [eNm, enQn, enSd, lcI, lcfT_eq, setS, nmQ, nmS, lim, sl]
theorem in_a {q : Qn} {z : Bool} : cmp2 .inn z (.str [97]) (.lst ((nmQ q).map .str)) = some (hasA q) := by
  cases q with
  | nm => cases z <;> rfl
  | less s t => cases z <;> cases s <;> cases t <;> rfl
  | same s t => cases z <;> cases s <;> cases t <;> rfl
theorem in_b {q : Qn} {z : Bool} : cmp2 .inn z (.str [98]) (.lst ((nmQ q).map .str)) = some (hasB q) := by
  cases q with
  | nm => cases z <;> rfl
  | less s t => cases z <;> cases s <;> cases t <;> rfl
  | same s t => cases z <;> cases s <;> cases t <;> rfl
theorem nin_a {q : Qn} {z : Bool} : cmp2 .nin z (.str [97]) (.lst ((nmQ q).map .str)) = some (!hasA q) := by
  cases q with
  | nm => cases z <;> rfl
  | less s t => cases z <;> cases s <;> cases t <;> rfl
  | same s t => cases z <;> cases s <;> cases t <;> rfl
theorem nin_b {q : Qn} {z : Bool} : cmp2 .nin z (.str [98]) (.lst ((nmQ q).map .str)) = some (!hasB q) := by
  cases q with
  | nm => cases z <;> rfl
  | less s t => cases z <;> cases s <;> cases t <;> rfl
  | same s t => cases z <;> cases s <;> cases t <;> rfl
theorem ne_iv {z : Bool} {a b : Iv} : cmp2 .ne z (iv a) (iv b) = some (decide (a ≠ b)) := by
  obtain ⟨a1, a2⟩ := a
  obtain ⟨b1, b2⟩ := b
  have := cmp2_neT (z := z) (p := a1) (q := a2) (a := b1) (b := b2)
  rw [show iv (a1, a2) = .tup [.int a1, .int a2] from rfl, show iv (b1, b2) = .tup [.int b1, .int b2] from rfl, this]
  congr 1
  by_cases h1 : a1 = b1 <;> by_cases h2 : a2 = b2 <;> simp [h1, h2]
def env1 (ns bo : PV) (q : Qn) (so : Bool) (fl told : PV) (al : Bool) (hs : PV) (a3 a13 : Sl) : Env := [.sh ns, .sh bo, .un, a3, .un, .sh (enQn q), .sh (.bl so), .sh fl, .un, .sh told, .sh (.bl al), .sh hs, .un, a13, .un, .un, .un, .un]
theorem e52_3 {Φ : Phi} {S : Sto} {ns fl hs : PV} {q : Qn} {so al has : Bool} {k : Tx} {bo told : List (Ky × PV)} {T O : Iv} {h : Option (Int × Int)}
    (hT : item (.dct told) (.str k) = some (iv T)) (hO : item (.dct bo) (.str k) = some (iv O)) (hin : ∀ z, cmp2 .inn z (.str k) (.lst ((nmQ q).map .str)) = some has) (hnin : ∀ z, cmp2 .nin z (.str k) (.lst ((nmQ q).map .str)) = some (!has))
    (H1 : ∀ p, h = some p → T.1 ≤ p.1 ∧ p.1 ≤ p.2 ∧ p.2 ≤ T.2) (H2 : al = true → has = true → ∀ p, h = some p → T = p) (H3 : has = false → T = O) :
    exB G Φ b52_3 (env1 ns (.dct bo) q so fl (.dct told) al hs (.sh (.str k)) (.sh (toP h))) S = .nx (env1 ns (.dct bo) q so fl (.dct told) al hs .un .un) S := by
  obtain ⟨t1, t2⟩ := T
  have hT' : item (.dct told) (.str k) = some (.tup [.int t1, .int t2]) := hT
  unfold b52_3 env1
  refine seq_to (r1 := [.sh ns, .sh (.dct bo), .un, .sh (.str k), .sh (.int t1), .sh (enQn q), .sh (.bl so), .sh fl, .un, .sh (.dct told), .sh (.bl al), .sh hs, .un, .sh (toP h), .un, .sh (.int t2), .un, .un]) (S1 := S) (by simp [setS, hT', vD]) ?_
  refine seq_to (r1 := [.sh ns, .sh (.dct bo), .un, .sh (.str k), .sh (.int t1), .sh (enQn q), .sh (.bl so), .sh fl, .un, .sh (.dct told), .sh (.bl al), .sh hs, .un, .sh (toP h), .un, .sh (.int t2), .un, .un]) (S1 := S) (ife_f (S1 := S) ?_ rfl) ?_
  · cases h with
    | none => simp
    | some p =>
      obtain ⟨q1, q2, q3⟩ := H1 p rfl
      simp [chn3_eq, chnH_b, chnG_b, q1, q2, q3]
  refine seq_to (r1 := [.sh ns, .sh (.dct bo), .un, .sh (.str k), .sh (.int t1), .sh (enQn q), .sh (.bl so), .sh fl, .un, .sh (.dct told), .sh (.bl al), .sh hs, .un, .sh (toP h), .own (.lst ((nmQ q).map .str)), .sh (.int t2), .un, .un]) (S1 := S) ?_ ?_
  · rw [exS_asg, nms_ev]
    simp [setS]
  refine seq_to (r1 := [.sh ns, .sh (.dct bo), .un, .sh (.str k), .sh (.int t1), .sh (enQn q), .sh (.bl so), .sh fl, .un, .sh (.dct told), .sh (.bl al), .sh hs, .un, .sh (toP h), .sh (.lst ((nmQ q).map .str)), .sh (.int t2), .un, .un]) (S1 := S) (by simp [setS]) ?_
  refine seq_to (r1 := [.sh ns, .sh (.dct bo), .un, .sh (.str k), .sh (.int t1), .sh (enQn q), .sh (.bl so), .sh fl, .un, .sh (.dct told), .sh (.bl al), .sh hs, .un, .sh (toP h), .sh (.lst ((nmQ q).map .str)), .sh (.int t2), .un, .un]) (S1 := S) (ife_f (S1 := S) ?_ rfl) ?_
  · cases al with
    | false => simp
    | true =>
      cases h with
      | none => simp
      | some p =>
        cases has with
        | false => simp [hin]
        | true =>
          have e := H2 rfl rfl p rfl
          have ne : ∀ z, cmp2 .ne z (PV.tup [.int t1, .int t2]) (.tup [.int p.1, .int p.2]) = some false := by
            intro z
            have := ne_iv (z := z) (a := (t1, t2)) (b := p)
            rw [e] at this
            have e2 : (PV.tup [.int t1, .int t2]) = iv p := by rw [← e]; rfl
            rw [e2]
            simpa [iv] using this
          simp [hin, hT', vD, ne]
  refine seq_to (r1 := [.sh ns, .sh (.dct bo), .un, .sh (.str k), .sh (.int t1), .sh (enQn q), .sh (.bl so), .sh fl, .un, .sh (.dct told), .sh (.bl al), .sh hs, .un, .sh (toP h), .sh (.lst ((nmQ q).map .str)), .sh (.int t2), .un, .un]) (S1 := S) (ife_f (S1 := S) ?_ rfl) ?_
  · cases has with
    | true => simp [hnin]
    | false =>
      have e := H3 rfl
      have ne := ne_iv (z := true) (a := (t1, t2)) (b := O)
      rw [e] at ne
      rw [e] at hT
      simp at ne
      simp [hnin, vD, hT, hO, vI, ne]
  simp [setS]
theorem wd2 {x y : Int} {q : Qn} (hx : -1000 ≤ x ∧ x ≤ 1000) (hy : -1000 ≤ y ∧ y ≤ 1000) (hq : QnW q) : Wd2 x y q := by
  have bd : ∀ s, SdW s → -30000 ≤ val x y s ∧ val x y s ≤ 30000 := by
    intro s hs
    cases s <;> simp only [val, SdW] at * <;> omega
  cases q with
  | nm => exact trivial
  | less s t => exact ⟨bd s hq.1, bd t hq.2⟩
  | same s t => exact trivial
section
variable {A B C : Iv} {q : Qn} {so : Bool} {u w : Nat} {K : Iv × Iv}
theorem fit_in (hA : -100 ≤ A.1 ∧ A.2 ≤ 100) (hB : -100 ≤ B.1 ∧ B.2 ≤ 100) (hu : A.2 + 1 = A.1 + u) (hw : B.2 + 1 = B.1 + w) (hq : QnW q) {p : Int × Int} (hp : p ∈ fitsA (rng A.1 u) B q so w) : ∃ K, bhd A B q so = some K ∧ InI p.1 K.1 ∧ InI p.2 K.2 := by
  obtain ⟨h1, h2, h3⟩ := (mem_fits hu hw).mp hp
  have i1 := h1
  have i2 := h2
  unfold InI at i1 i2
  have := bhd_in (q := q) h1 h2 (wd2 (by omega) (by omega) hq)
  rw [h3] at this
  exact this
theorem hullA (hA : -100 ≤ A.1 ∧ A.2 ≤ 100) (hB : -100 ≤ B.1 ∧ B.2 ≤ 100) (hu : A.2 + 1 = A.1 + u) (hw : B.2 + 1 = B.1 + w) (hq : QnW q) (hK : bhd A B q so = some K) :
    ∀ p, hullO ((fitsA (rng A.1 u) B q so w).map Prod.fst) = some p → K.1.1 ≤ p.1 ∧ p.1 ≤ p.2 ∧ p.2 ≤ K.1.2 := by
  intro p hp
  obtain ⟨⟨m1, -⟩, ⟨m2, l2⟩⟩ := hull_some hp
  have := l2 _ m1
  obtain ⟨f, hf, e⟩ := List.mem_map.mp m1
  obtain ⟨g, hg, e2⟩ := List.mem_map.mp m2
  obtain ⟨K1, q1, i1, -⟩ := fit_in hA hB hu hw hq hf
  obtain ⟨K2, q2, i2, -⟩ := fit_in hA hB hu hw hq hg
  rw [hK] at q1 q2
  cases q1
  cases q2
  unfold InI at i1 i2
  omega
theorem hullB (hA : -100 ≤ A.1 ∧ A.2 ≤ 100) (hB : -100 ≤ B.1 ∧ B.2 ≤ 100) (hu : A.2 + 1 = A.1 + u) (hw : B.2 + 1 = B.1 + w) (hq : QnW q) (hK : bhd A B q so = some K) :
    ∀ p, hullO ((fitsA (rng A.1 u) B q so w).map Prod.snd) = some p → K.2.1 ≤ p.1 ∧ p.1 ≤ p.2 ∧ p.2 ≤ K.2.2 := by
  intro p hp
  obtain ⟨⟨m1, -⟩, ⟨m2, l2⟩⟩ := hull_some hp
  have := l2 _ m1
  obtain ⟨f, hf, e⟩ := List.mem_map.mp m1
  obtain ⟨g, hg, e2⟩ := List.mem_map.mp m2
  obtain ⟨K1, q1, -, i1⟩ := fit_in hA hB hu hw hq hf
  obtain ⟨K2, q2, -, i2⟩ := fit_in hA hB hu hw hq hg
  rw [hK] at q1 q2
  cases q1
  cases q2
  unfold InI at i1 i2
  omega
theorem exA (hA : -100 ≤ A.1 ∧ A.2 ≤ 100) (hB : -100 ≤ B.1 ∧ B.2 ≤ 100) (hu : A.2 + 1 = A.1 + u) (hw : B.2 + 1 = B.1 + w) (hq : QnW q) (hK : bhd A B q so = some K) (al : alone q = true) (ha : hasA q = true) :
    ∀ p, hullO ((fitsA (rng A.1 u) B q so w).map Prod.fst) = some p → K.1 = p := by
  intro p hp
  have h1 := hullA hA hB hu hw hq hK p hp
  obtain ⟨⟨m1, l1⟩, ⟨m2, l2⟩⟩ := hull_some hp
  obtain ⟨f, hf, e⟩ := List.mem_map.mp m1
  obtain ⟨f1, f2, f3⟩ := (mem_fits hu hw).mp hf
  obtain ⟨⟨⟨y, y1, y2, y3⟩, ⟨z, z1, z2, z3⟩⟩, -⟩ := (bhd_met hA hB hq f1 f2 f3 al hK).imp (fun h => h ha) id
  have g1 := l1 K.1.1 (List.mem_map.mpr ⟨(K.1.1, y), (mem_fits hu hw).mpr ⟨y2, y1, y3⟩, rfl⟩)
  have g2 := l2 K.1.2 (List.mem_map.mpr ⟨(K.1.2, z), (mem_fits hu hw).mpr ⟨z2, z1, z3⟩, rfl⟩)
  obtain ⟨⟨k1, k2⟩, k3⟩ := K
  obtain ⟨p1, p2⟩ := p
  simp only at *
  congr 1 <;> omega
theorem exB' (hA : -100 ≤ A.1 ∧ A.2 ≤ 100) (hB : -100 ≤ B.1 ∧ B.2 ≤ 100) (hu : A.2 + 1 = A.1 + u) (hw : B.2 + 1 = B.1 + w) (hq : QnW q) (hK : bhd A B q so = some K) (al : alone q = true) (ha : hasB q = true) :
    ∀ p, hullO ((fitsA (rng A.1 u) B q so w).map Prod.snd) = some p → K.2 = p := by
  intro p hp
  have h1 := hullB hA hB hu hw hq hK p hp
  obtain ⟨⟨m1, l1⟩, ⟨m2, l2⟩⟩ := hull_some hp
  obtain ⟨f, hf, e⟩ := List.mem_map.mp m1
  obtain ⟨f1, f2, f3⟩ := (mem_fits hu hw).mp hf
  obtain ⟨-, ⟨⟨y, y1, y2, y3⟩, ⟨z, z1, z2, z3⟩⟩⟩ := (bhd_met hA hB hq f1 f2 f3 al hK).imp id (fun h => h ha)
  have g1 := l1 K.2.1 (List.mem_map.mpr ⟨(y, K.2.1), (mem_fits hu hw).mpr ⟨y1, y2, y3⟩, rfl⟩)
  have g2 := l2 K.2.2 (List.mem_map.mpr ⟨(z, K.2.2), (mem_fits hu hw).mpr ⟨z1, z2, z3⟩, rfl⟩)
  obtain ⟨k3, ⟨k1, k2⟩⟩ := K
  obtain ⟨p1, p2⟩ := p
  simp only at *
  congr 1 <;> omega
end
theorem ne_sd {z : Bool} {s t : Sd} : cmp2 .ne z (enSd s) (enSd t) = some (!sdEq s t) := by
  cases s with
  | na => cases t <;> cases z <;> rfl
  | nb => cases t <;> cases z <;> rfl
  | nu v => cases t with
    | na => cases z <;> rfl
    | nb => cases z <;> rfl
    | nu w =>
      have e : cmp2 .ne z (enSd (.nu v)) (enSd (.nu w)) = some (!(eqv (enSd (.nu v)) (enSd (.nu w)))) := by cases z <;> rfl
      rw [e]
      by_cases h : v = w <;> simp [enSd, eqv, eqvs, sdEq, h]
def envR (ns bo : PV) (q : Qn) (s6 s7 s9 s10 s11 : Sl) : Env := [.sh ns, .sh bo, .un, .un, .un, .sh (enQn q), s6, s7, .un, s9, s10, s11, .un, .un, .un, .un, .un, .un]
theorem al_ev {Φ : Phi} {S : Sto} {q : Qn} {s0 s1 s2 s3 s4 s6 s7 s8 s9 s10 s11 s12 s13 s14 s15 s16 s17 : Sl} : evE G Φ (.or (.cmp .eq (.sub (.var 5) (.lit (.int 0))) (.lit (.str [110, 97, 109, 101]))) (.cmp .ne (.sub (.var 5) (.lit (.int 1))) (.sub (.var 5) (.lit (.int 2))))) [s0, s1, s2, s3, s4, .sh (enQn q), s6, s7, s8, s9, s10, s11, s12, s13, s14, s15, s16, s17] S = .ok (.bl (alone q)) .sh S := by
  cases q with
  | nm => simp [enQn, alone]
  | less s t => simp [enQn, alone, vS, ne_sd]
  | same s t => simp [enQn, alone, vS, ne_sd]
theorem e52_4 {n : Nat} {ns : PV} {q : Qn} {so : Bool} {A B C : Iv} {u w : Nat} (hA : -100 ≤ A.1 ∧ A.2 ≤ 100) (hB : -100 ≤ B.1 ∧ B.2 ≤ 100) (hu : A.2 + 1 = A.1 + u) (hu5 : u ≤ 5) (hw : B.2 + 1 = B.1 + w) (hw5 : w ≤ 5) (hq : QnW q) :
    exB G (callN G D (n+6)) b52_4 (envR ns (.dct (bk A B C)) q (.sh (.bl so)) .un .un .un .un) [] = .nx (envR ns (.dct (bk A B C)) q .un .un .un .un .un) [] ∨ exB G (callN G D (n+6)) b52_4 (envR ns (.dct (bk A B C)) q (.sh (.bl so)) .un .un .un .un) [] = .cnt (envR ns (.dct (bk A B C)) q .un .un .un .un .un) [] := by
  obtain ⟨m, hm, c48⟩ := c48 (n := n + 2) (S := []) (A := A) (B := B) (C := C) (q := q) (so := so)
  have lp := e52_o (n := n + 4) (S := []) (ns := ns) (so := so) (C := C) hA hB hu hu5 hw hw5 hq
  have vq : view [] (enQn q) = enQn q := by cases q <;> rfl
  have h1 := c51 (n := n + 5) (S := []) (l := (fitsA (rng A.1 u) B q so w).map Prod.fst) (sl := .own (.lst (((fitsA (rng A.1 u) B q so w).map Prod.fst).map .int))) rfl
  have h2 := c51 (n := n + 5) (S := []) (l := (fitsA (rng A.1 u) B q so w).map Prod.snd) (sl := .own (.lst (((fitsA (rng A.1 u) B q so w).map Prod.snd).map .int))) rfl
  have ka := fun K (hK : bhd A B q so = some K) => hullA (so := so) hA hB hu hw hq hK
  have kb := fun K (hK : bhd A B q so = some K) => hullB (so := so) hA hB hu hw hq hK
  have ea := fun K (hK : bhd A B q so = some K) => exA (so := so) hA hB hu hw hq hK
  have eb := fun K (hK : bhd A B q so = some K) => exB' (so := so) hA hB hu hw hq hK
  have fl := fits_len (A := rng A.1 u) (B := B) (q := q) (so := so) (w := w)
  have fl2 : (rng A.1 u).length * w ≤ 5 * 5 := Nat.mul_le_mul (by simp [rng]; omega) hw5
  have fi := fun p hp => fit_in (so := so) (p := p) hA hB hu hw hq hp
  generalize hF : fitsA (rng A.1 u) B q so w = F at *
  have l9 : ¬ 16000000 < F.length := by omega
  rw [List.map_map] at h1 h2
  cases hK : bhd A B q so with
  | none =>
    right
    have hF0 : F = [] := by
      cases F with
      | nil => rfl
      | cons p r =>
        obtain ⟨K, e, -⟩ := fi p List.mem_cons_self
        rw [hK] at e
        cases e
    subst hF0
    rw [hK] at c48
    simp only [enO] at c48
    unfold b52_4
    refine seq_to (r1 := envR ns (.dct (bk A B C)) q (.sh (.bl so)) (.own (.lst [])) .un .un .un) (S1 := []) (by simp [envR, setS]) ?_
    refine seq_to (r1 := envR ns (.dct (bk A B C)) q (.sh (.bl so)) (.own (.lst [])) .un .un .un) (S1 := []) (by simp [envR, setS]) ?_
    refine seq_to (r1 := envR ns (.dct (bk A B C)) q (.sh (.bl so)) (.own (.lst [])) .un .un .un) (S1 := []) (by simp [envR, setS]) ?_
    refine seq_to (r1 := envR ns (.dct (bk A B C)) q (.sh (.bl so)) (.own (.lst [])) .un .un .un) (S1 := []) lp ?_
    refine seq_to (r1 := envR ns (.dct (bk A B C)) q (.sh (.bl so)) (.sh (.lst [])) .un .un .un) (S1 := []) (by simp [envR, setS]) ?_
    refine seq_to (r1 := envR ns (.dct (bk A B C)) q (.sh (.bl so)) (.sh (.lst [])) (match m with | .own => .own .non | _ => .sh .non) .un .un) (S1 := []) (by rcases hm with rfl | rfl <;> simp [envR, setS, c48, vq, vD]) ?_
    refine seq_to (r1 := envR ns (.dct (bk A B C)) q (.sh (.bl so)) (.sh (.lst [])) (.sh .non) .un .un) (S1 := []) (by rcases hm with rfl | rfl <;> simp [envR, setS]) ?_
    refine seq_to (r1 := envR ns (.dct (bk A B C)) q (.sh (.bl so)) (.sh (.lst [])) (.sh .non) (.sh (.bl (alone q))) .un) (S1 := []) (by rw [exS_asg, envR, al_ev]; simp [setS, envR]) ?_
    refine cnt_to (ife_t (S1 := []) (by simp [envR]) ?_)
    simp [envR, setS]
  | some K =>
    left
    obtain ⟨KA, KB⟩ := K
    rw [hK] at c48
    rw [eO] at c48
    have rs := bhd_rest hK
    have sr : bi .sorted [.lst [.str [97], .str [98], .str [99]]] = some (.lst [.str [97], .str [98], .str [99]], .own) := rfl
    have ls : bi .list [.dct (bk KA KB C)] = some (.lst [.str [97], .str [98], .str [99]], .own) := rfl
    have nl : ∀ z, cmp2 .ne z (.lst [.str [97], .str [98], .str [99]]) (.lst [.str [97], .str [98], .str [99]]) = some false := fun z => by cases z <;> rfl
    have nc := ne_iv (z := true) (a := C) (b := C)
    simp at nc
    have lc1 : ∀ r : Env, r.length = 18 → lcI (lcT (evE G (callN G D (n+6)) (.sub (.var 17) (.lit (.int 0)))) (.nm 17) r) (F.map enF) [] [] = .ok (.lst ((F.map Prod.fst).map .int)) .own [] := by
      intro r hr
      rw [lcI_m (e := enF) (h := fun p => .int p.1), List.map_map]
      · rfl
      · intro p _
        have hs : setS r 17 (.sh (enF p)) = some (r.set 17 (.sh (enF p))) := if_pos (by omega)
        have hg : (r.set 17 (.sh (enF p)))[17]? = some (.sh (enF p)) := by rw [List.getElem?_set]; simp [hr]
        have eb : bindG [] (.nm 17) (enF p) r = some (r.set 17 (.sh (enF p))) := hs
        have it : item (enF p) (.int 0) = some (.int p.1) := rfl
        have vf : view [] (enF p) = enF p := rfl
        rw [lcT_eq, eb]
        simp [hg, it, vf]
    have lc2 : ∀ r : Env, r.length = 18 → lcI (lcT (evE G (callN G D (n+6)) (.sub (.var 17) (.lit (.int 1)))) (.nm 17) r) (F.map enF) [] [] = .ok (.lst ((F.map Prod.snd).map .int)) .own [] := by
      intro r hr
      rw [lcI_m (e := enF) (h := fun p => .int p.2), List.map_map]
      · rfl
      · intro p _
        have hs : setS r 17 (.sh (enF p)) = some (r.set 17 (.sh (enF p))) := if_pos (by omega)
        have hg : (r.set 17 (.sh (enF p)))[17]? = some (.sh (enF p)) := by rw [List.getElem?_set]; simp [hr]
        have eb : bindG [] (.nm 17) (enF p) r = some (r.set 17 (.sh (enF p))) := hs
        have it : item (enF p) (.int 1) = some (.int p.2) := rfl
        have vf : view [] (enF p) = enF p := rfl
        rw [lcT_eq, eb]
        simp [hg, it, vf]
    unfold b52_4
    refine seq_to (r1 := envR ns (.dct (bk A B C)) q (.sh (.bl so)) (.own (.lst [])) .un .un .un) (S1 := []) (by simp [envR, setS]) ?_
    refine seq_to (r1 := envR ns (.dct (bk A B C)) q (.sh (.bl so)) (.own (.lst [])) .un .un .un) (S1 := []) (by simp [envR, setS]) ?_
    refine seq_to (r1 := envR ns (.dct (bk A B C)) q (.sh (.bl so)) (.own (.lst [])) .un .un .un) (S1 := []) (by simp [envR, setS]) ?_
    refine seq_to (r1 := envR ns (.dct (bk A B C)) q (.sh (.bl so)) (.own (.lst (F.map enF))) .un .un .un) (S1 := []) lp ?_
    refine seq_to (r1 := envR ns (.dct (bk A B C)) q (.sh (.bl so)) (.sh (.lst (F.map enF))) .un .un .un) (S1 := []) (by simp [envR, setS]) ?_
    refine seq_to (r1 := envR ns (.dct (bk A B C)) q (.sh (.bl so)) (.sh (.lst (F.map enF))) (match m with | .own => .own (.dct (bk KA KB C)) | _ => .sh (.dct (bk KA KB C))) .un .un) (S1 := []) (by rcases hm with rfl | rfl <;> simp [envR, setS, c48, vq, vD]) ?_
    refine seq_to (r1 := envR ns (.dct (bk A B C)) q (.sh (.bl so)) (.sh (.lst (F.map enF))) (.sh (.dct (bk KA KB C))) .un .un) (S1 := []) (by rcases hm with rfl | rfl <;> simp [envR, setS]) ?_
    refine seq_to (r1 := envR ns (.dct (bk A B C)) q (.sh (.bl so)) (.sh (.lst (F.map enF))) (.sh (.dct (bk KA KB C))) (.sh (.bl (alone q))) .un) (S1 := []) (by rw [exS_asg, envR, al_ev]; simp [setS, envR]) ?_
    refine seq_to (r1 := envR ns (.dct (bk A B C)) q (.sh (.bl so)) (.sh (.lst (F.map enF))) (.sh (.dct (bk KA KB C))) (.sh (.bl (alone q))) .un) (S1 := []) (ife_f (S1 := []) (by simp [envR, vD, iN]) rfl) ?_
    refine seq_to (r1 := envR ns (.dct (bk A B C)) q (.sh (.bl so)) (.sh (.lst (F.map enF))) (.sh (.dct (bk KA KB C))) (.sh (.bl (alone q))) .un) (S1 := []) (ife_f (S1 := []) (by simp [envR, vD, ls, sr, nl, gC, vI, nc]) rfl) ?_
    refine seq_to (r1 := envR ns (.dct (bk A B C)) q (.sh (.bl so)) (.sh (.lst (F.map enF))) (.sh (.dct (bk KA KB C))) (.sh (.bl (alone q))) (.own (.lst [toP (hullO (F.map Prod.fst)), toP (hullO (F.map Prod.snd))]))) (S1 := []) (by simp [envR, setS, lc1, lc2, lim, l9, h1, h2]) ?_
    refine seq_to (r1 := envR ns (.dct (bk A B C)) q (.sh (.bl so)) (.sh (.lst (F.map enF))) (.sh (.dct (bk KA KB C))) (.sh (.bl (alone q))) (.sh (.lst [toP (hullO (F.map Prod.fst)), toP (hullO (F.map Prod.snd))]))) (S1 := []) (by simp [envR, setS]) ?_
    refine seq_to (r1 := envR ns (.dct (bk A B C)) q (.sh (.bl so)) (.sh (.lst (F.map enF))) (.sh (.dct (bk KA KB C))) (.sh (.bl (alone q))) (.sh (.lst [toP (hullO (F.map Prod.fst)), toP (hullO (F.map Prod.snd))]))) (S1 := []) (by simp [envR, setS]) ?_
    refine seq_to (r1 := envR ns (.dct (bk A B C)) q (.sh (.bl so)) (.sh (.lst (F.map enF))) (.sh (.dct (bk KA KB C))) (.sh (.bl (alone q))) (.sh (.lst [toP (hullO (F.map Prod.fst)), toP (hullO (F.map Prod.snd))]))) (S1 := []) (by simp [envR, setS]) ?_
    refine seq_to (r1 := envR ns (.dct (bk A B C)) q (.sh (.bl so)) (.sh (.lst (F.map enF))) (.sh (.dct (bk KA KB C))) (.sh (.bl (alone q))) (.sh (.lst [toP (hullO (F.map Prod.fst)), toP (hullO (F.map Prod.snd))]))) (S1 := []) (by simp [envR, setS]) ?_
    refine seq_to (r1 := envR ns (.dct (bk A B C)) q (.sh (.bl so)) (.sh (.lst (F.map enF))) (.sh (.dct (bk KA KB C))) (.sh (.bl (alone q))) (.sh (.lst [toP (hullO (F.map Prod.fst)), toP (hullO (F.map Prod.snd))]))) (S1 := []) (by simp [envR, setS]) ?_
    refine seq_to (r1 := envR ns (.dct (bk A B C)) q (.sh (.bl so)) (.sh (.lst (F.map enF))) (.sh (.dct (bk KA KB C))) (.sh (.bl (alone q))) (.sh (.lst [toP (hullO (F.map Prod.fst)), toP (hullO (F.map Prod.snd))]))) (S1 := []) (by simp [envR, setS]) ?_
    have t1 := e52_3 (Φ := callN G D (n+6)) (S := []) (ns := ns) (fl := .lst (F.map enF)) (hs := .lst [toP (hullO (F.map Prod.fst)), toP (hullO (F.map Prod.snd))]) (q := q) (so := so) (al := alone q) (k := [97]) (bo := bk A B C) (told := bk KA KB C) (h := hullO (F.map Prod.fst)) gA gA (fun z => in_a) (fun z => nin_a) (ka _ hK) (fun h1 h2 => ea _ hK h1 h2) (fun h => rs.1 h)
    have t2 := e52_3 (Φ := callN G D (n+6)) (S := []) (ns := ns) (fl := .lst (F.map enF)) (hs := .lst [toP (hullO (F.map Prod.fst)), toP (hullO (F.map Prod.snd))]) (q := q) (so := so) (al := alone q) (k := [98]) (bo := bk A B C) (told := bk KA KB C) (h := hullO (F.map Prod.snd)) gB gB (fun z => in_b) (fun z => nin_b) (kb _ hK) (fun h1 h2 => eb _ hK h1 h2) (fun h => rs.2 h)
    have lpz : exS G (callN G D (n+6)) (.for_ (.tp2 (.nm 3) (.nm 13)) (.zip (.lst (.cons (.lit (.str [97])) (.cons (.lit (.str [98])) .nil))) (.var 11)) b52_3) (envR ns (.dct (bk A B C)) q (.sh (.bl so)) (.sh (.lst (F.map enF))) (.sh (.dct (bk KA KB C))) (.sh (.bl (alone q))) (.sh (.lst [toP (hullO (F.map Prod.fst)), toP (hullO (F.map Prod.snd))]))) [] = .nx (envR ns (.dct (bk A B C)) q (.sh (.bl so)) (.sh (.lst (F.map enF))) (.sh (.dct (bk KA KB C))) (.sh (.bl (alone q))) (.sh (.lst [toP (hullO (F.map Prod.fst)), toP (hullO (F.map Prod.snd))]))) [] := by
      have it : evI G (callN G D (n+6)) false (.zip (.lst (.cons (.lit (.str [97])) (.cons (.lit (.str [98])) .nil))) (.var 11)) (envR ns (.dct (bk A B C)) q (.sh (.bl so)) (.sh (.lst (F.map enF))) (.sh (.dct (bk KA KB C))) (.sh (.bl (alone q))) (.sh (.lst [toP (hullO (F.map Prod.fst)), toP (hullO (F.map Prod.snd))]))) [] = .ok [.tup [.str [97], toP (hullO (F.map Prod.fst))], .tup [.str [98], toP (hullO (F.map Prod.snd))]] [] := by
        simp [envR]
        rfl
      have b1 : ∀ k x, bindG [] (.tp2 (.nm 3) (.nm 13)) (.tup [.str k, x]) (envR ns (.dct (bk A B C)) q (.sh (.bl so)) (.sh (.lst (F.map enF))) (.sh (.dct (bk KA KB C))) (.sh (.bl (alone q))) (.sh (.lst [toP (hullO (F.map Prod.fst)), toP (hullO (F.map Prod.snd))]))) = some (env1 ns (.dct (bk A B C)) q so (.lst (F.map enF)) (.dct (bk KA KB C)) (alone q) (.lst [toP (hullO (F.map Prod.fst)), toP (hullO (F.map Prod.snd))]) (.sh (.str k)) (.sh x)) := fun _ _ => rfl
      have back : env1 ns (.dct (bk A B C)) q so (.lst (F.map enF)) (.dct (bk KA KB C)) (alone q) (.lst [toP (hullO (F.map Prod.fst)), toP (hullO (F.map Prod.snd))]) .un .un = envR ns (.dct (bk A B C)) q (.sh (.bl so)) (.sh (.lst (F.map enF))) (.sh (.dct (bk KA KB C))) (.sh (.bl (alone q))) (.sh (.lst [toP (hullO (F.map Prod.fst)), toP (hullO (F.map Prod.snd))])) := rfl
      rw [exS_for, it, forR_ok, forT_cons, b1, forO_some, t1, SRes.loop_nx, back, forT_cons, b1, forO_some, t2, SRes.loop_nx, back, forT_nil]
    refine seq_to (r1 := envR ns (.dct (bk A B C)) q (.sh (.bl so)) (.sh (.lst (F.map enF))) (.sh (.dct (bk KA KB C))) (.sh (.bl (alone q))) (.sh (.lst [toP (hullO (F.map Prod.fst)), toP (hullO (F.map Prod.snd))]))) (S1 := []) lpz ?_
    simp [envR, setS]
/-! ### once, and the law -/
theorem b520 {n : Nat} {ns : List Int} : ∀ (S : Sto) (i : Int) (k : Tx) (bo : List (Ky × PV)), 0 ≤ i → kindOk (.str k) bo = true → bo.length < 16000000 → ∃ A : Iv, ∃ u : Nat, ((-100 ≤ A.1 ∧ A.2 ≤ 100) ∧ A.2 + 1 = A.1 + u ∧ u ≤ 5) ∧
    exB G (callN G D (n+3)) b52_0 [.sh (.lst (ns.map .int)), .own (.dct bo), .sh (.int i), .sh (.str k), .un, .un, .un, .un, .un, .un, .un, .un, .un, .un, .un, .un, .un, .un] S = .nx [.sh (.lst (ns.map .int)), .own (.dct (putK (.str k) (iv A) bo)), .un, .un, .un, .un, .un, .un, .un, .un, .un, .un, .un, .un, .un, .un, .un, .un] S := by
  intro S i k bo hi hk hl
  obtain ⟨v1, g1, p1⟩ := f9 (n := n + 1) (S := S) (ns := ns) (i := 2 * i) (many := 9) (by omega) (by decide)
  obtain ⟨v2, g2, p2⟩ := f9 (n := n + 1) (S := S) (ns := ns) (i := 2 * i + 1) (many := 5) (by omega) (by decide)
  have m2 : ∀ z, op2 .mul z (.int 2) (.int i) = some (.int (2 * i), .sh) := fun z => op2_mul (.inl (by decide))
  refine ⟨(v1 - 4, v1 - 4 + v2), (v2 + 1).toNat, ⟨⟨by simp only; omega, by simp only; omega⟩, by simp only; omega, by omega⟩, ?_⟩
  unfold b52_0
  refine seq_to (by (simp [setS, m2, p1]; (try exact ⟨rfl, rfl⟩))) ?_
  refine seq_to (r1 := [.sh (.lst (ns.map .int)), .own (.dct (putK (.str k) (iv (v1 - 4, v1 - 4 + v2)) bo)), .sh (.int i), .sh (.str k), .sh (.int (v1 - 4)), .un, .un, .un, .un, .un, .un, .un, .un, .un, .un, .un, .un, .un]) (S1 := S) ?_ ?_
  · simp [setS, m2, p2, hk, hl, lim]
    rfl
  simp [setS]
theorem c52 {ns : List Int} {sl : Sl} (hs : share sl = .sh (.lst (ns.map .int))) : callN G D 29 52 [sl] [] = .ok (.bl true) .sh [] := by
  rw [run_eq (n := 28) (d := d52) rfl rfl]
  have e0 : List.map share [sl] ++ List.replicate (d52.slots - d52.params) Sl.un = [.sh (.lst (ns.map .int)), .un, .un, .un, .un, .un, .un, .un, .un, .un, .un, .un, .un, .un, .un, .un, .un, .un] := by rw [List.map_cons, hs]; rfl
  rw [e0]
  obtain ⟨A, u, ⟨hA, hu, hu5⟩, s1⟩ := b520 (n := 25) (ns := ns) [] 0 [97] [] (by decide) rfl (by decide)
  obtain ⟨B, w, ⟨hB, hw, hw5⟩, s2⟩ := b520 (n := 25) (ns := ns) [] 1 [98] [(.str [97], iv A)] (by decide) rfl (show 1 < 16000000 by decide)
  obtain ⟨C, y, ⟨-, -, -⟩, s3⟩ := b520 (n := 25) (ns := ns) [] 2 [99] [(.str [97], iv A), (.str [98], iv B)] (by decide) rfl (show 2 < 16000000 by decide)
  obtain ⟨v6, g6, p6⟩ := f9 (n := 26) (S := []) (ns := ns) (i := 6) (many := 2) (by decide) (by decide)
  obtain ⟨v7, g7, p7⟩ := f9 (n := 26) (S := []) (ns := ns) (i := 7) (many := 4) (by decide) (by decide)
  obtain ⟨s, ws, p10⟩ := c49 (n := 25) (S := []) (ns := ns) (i := 10) (by decide)
  obtain ⟨t, wt, p20⟩ := c49 (n := 25) (S := []) (ns := ns) (i := 20) (by decide)
  obtain ⟨q0, hq0, e5⟩ : ∃ q0, QnW q0 ∧ exS G (callN G D 28) (.asg (.nm 5) (.tup (.cons (.sub (.lst (.cons (.lit (.str [108, 101, 115, 115])) (.cons (.lit (.str [115, 97, 109, 101])) .nil))) (.call 9 (.cons (.var 0) (.cons (.lit (.int 6)) (.cons (.lit (.int 2)) .nil))))) (.cons (.call 49 (.cons (.var 0) (.cons (.lit (.int 10)) .nil))) (.cons (.call 49 (.cons (.var 0) (.cons (.lit (.int 20)) .nil))) .nil))))) [.sh (.lst (ns.map .int)), .sh (.dct (bk A B C)), .un, .un, .un, .un, .un, .un, .un, .un, .un, .un, .un, .un, .un, .un, .un, .un] [] = .nx [.sh (.lst (ns.map .int)), .sh (.dct (bk A B C)), .un, .un, .un, .sh (enQn q0), .un, .un, .un, .un, .un, .un, .un, .un, .un, .un, .un, .un] [] := by
    have i0 : item (.lst [.str [108, 101, 115, 115], .str [115, 97, 109, 101]]) (.int 0) = some (.str [108, 101, 115, 115]) := rfl
    have i1 : item (.lst [.str [108, 101, 115, 115], .str [115, 97, 109, 101]]) (.int 1) = some (.str [115, 97, 109, 101]) := rfl
    have hv : v6 = 0 ∨ v6 = 1 := by omega
    rcases hv with rfl | rfl
    · exact ⟨.less s t, ⟨ws, wt⟩, by simp [setS, p6, p10, p20, i0, enQn]⟩
    · exact ⟨.same s t, ⟨ws, wt⟩, by simp [setS, p6, p10, p20, i1, enQn]⟩
  obtain ⟨q, hq, e7⟩ : ∃ q, QnW q ∧ exS G (callN G D 28) (.ife (.cm .eq (.call 9 (.cons (.var 0) (.cons (.lit (.int 7)) (.cons (.lit (.int 4)) .nil)))) (.lit (.int 0))) (.cons (.asg (.nm 5) (.tup (.cons (.lit (.str [110, 97, 109, 101])) (.cons (.lit (.str [97])) .nil)))) .nil) .nil) [.sh (.lst (ns.map .int)), .sh (.dct (bk A B C)), .un, .un, .un, .sh (enQn q0), .un, .un, .un, .un, .un, .un, .un, .un, .un, .un, .un, .un] [] = .nx (envR (.lst (ns.map .int)) (.dct (bk A B C)) q .un .un .un .un .un) [] := by
    by_cases h : v7 = 0
    · exact ⟨.nm, trivial, by simp [setS, p7, h, enQn, envR]⟩
    · exact ⟨q0, hq0, by simp [setS, p7, h, envR]⟩
  have r1 := e52_4 (n := 22) (ns := .lst (ns.map .int)) (so := true) (C := C) hA hB hu hu5 hw hw5 hq
  have r2 := e52_4 (n := 22) (ns := .lst (ns.map .int)) (so := false) (C := C) hA hB hu hu5 hw hw5 hq
  have body : exB G (callN G D 28) d52.body [.sh (.lst (ns.map .int)), .un, .un, .un, .un, .un, .un, .un, .un, .un, .un, .un, .un, .un, .un, .un, .un, .un] [] = .ret (.bl true) .sh [] := by
    unfold d52
    simp only
    refine seq_to (by (simp [setS]; (try exact ⟨rfl, rfl⟩))) ?_
    refine seq_to (r1 := [.sh (.lst (ns.map .int)), .own (.dct (bk A B C)), .un, .un, .un, .un, .un, .un, .un, .un, .un, .un, .un, .un, .un, .un, .un, .un]) (S1 := []) ?_ ?_
    · have it : evI G (callN G D 28) false (.enum (.lst (.cons (.lit (.str [97])) (.cons (.lit (.str [98])) (.cons (.lit (.str [99])) .nil))))) [.sh (.lst (ns.map .int)), .own (.dct []), .un, .un, .un, .un, .un, .un, .un, .un, .un, .un, .un, .un, .un, .un, .un, .un] [] = .ok [.tup [.int 0, .str [97]], .tup [.int 1, .str [98]], .tup [.int 2, .str [99]]] [] := by
        simp
        rfl
      have b1 : ∀ i k bo, bindG [] (.tp2 (.nm 2) (.nm 3)) (.tup [.int i, .str k]) [.sh (.lst (ns.map .int)), .own (.dct bo), .un, .un, .un, .un, .un, .un, .un, .un, .un, .un, .un, .un, .un, .un, .un, .un] = some [.sh (.lst (ns.map .int)), .own (.dct bo), .sh (.int i), .sh (.str k), .un, .un, .un, .un, .un, .un, .un, .un, .un, .un, .un, .un, .un, .un] := fun _ _ _ => rfl
      have pA : putK (.str [97]) (iv A) [] = [(.str [97], iv A)] := rfl
      have pB : putK (.str [98]) (iv B) [(.str [97], iv A)] = [(.str [97], iv A), (.str [98], iv B)] := rfl
      have pC : putK (.str [99]) (iv C) [(.str [97], iv A), (.str [98], iv B)] = bk A B C := rfl
      rw [exS_for, it, forR_ok, forT_cons, b1, forO_some, s1, SRes.loop_nx, pA, forT_cons, b1, forO_some, s2, SRes.loop_nx, pB, forT_cons, b1, forO_some, s3, SRes.loop_nx, pC, forT_nil]
    refine seq_to (by (simp [setS]; (try exact ⟨rfl, rfl⟩))) ?_
    refine seq_to e5 ?_
    refine seq_to e7 ?_
    refine seq_to (r1 := envR (.lst (ns.map .int)) (.dct (bk A B C)) q .un .un .un .un .un) (S1 := []) (by simp [envR, setS]) ?_
    refine seq_to (r1 := envR (.lst (ns.map .int)) (.dct (bk A B C)) q .un .un .un .un .un) (S1 := []) (by simp [envR, setS]) ?_
    refine seq_to (r1 := envR (.lst (ns.map .int)) (.dct (bk A B C)) q .un .un .un .un .un) (S1 := []) ?_ ?_
    · have it : evI G (callN G D 28) false (.seq (.tup (.cons (.lit (.bl true)) (.cons (.lit (.bl false)) .nil)))) (envR (.lst (ns.map .int)) (.dct (bk A B C)) q .un .un .un .un .un) [] = .ok ([true, false].map .bl) [] := by
        simp
      rw [exS_for, it, forR_ok]
      refine forT_same fun so hso => ?_
      have b1 : bindG [] (.nm 6) (.bl so) (envR (.lst (ns.map .int)) (.dct (bk A B C)) q .un .un .un .un .un) = some (envR (.lst (ns.map .int)) (.dct (bk A B C)) q (.sh (.bl so)) .un .un .un .un) := rfl
      rw [b1, forO_some]
      cases so with
      | true => exact r1
      | false => exact r2
    refine ret_to ?_
    have n1 := c44 (n := 27) (S := []) (A := A) (B := B) (C := C) (s := .nu 3)
    have n2 := c44 (n := 27) (S := []) (A := A) (B := B) (C := C) (s := .nb)
    simp only [enSd, ofS] at n1 n2
    have q1 : ∀ z, cmp2 .eq z (iv (3, 3)) (.tup [.int 3, .int 3]) = some true := fun z => by cases z <;> rfl
    have q2 : ∀ z, cmp2 .eq z (iv B) (iv B) = some true := fun z => by
      obtain ⟨b1, b2⟩ := B
      simp [iv]
    simp [envR, n1, n2, vI, q1, vD, gB, q2]
  rw [body]
  rfl
theorem b53 {ns : List Int} {t : Int} (hl : ns.length ≤ 63) : exB G (callN G D 29) b53_0 [.sh (.lst (ns.map .int)), .sh (.int t), .un] [] = if ns.isEmpty then .brk [.sh (.lst (ns.map .int)), .un, .un] [] else .nx [.sh (.lst (ns.map .int)), .un, .un] [] := by
  have m : ∀ z, op2 .mul z (.int 7919) (.int t) = some (.int (7919 * t), .sh) := fun z => op2_mul (.inl (by decide))
  have lc : lcI (lcT (evE G (callN G D 29) (.bin .add (.var 2) (.bin .mul (.lit (.int 7919)) (.var 1)))) (.nm 2) [.sh (.lst (ns.map .int)), .sh (.int t), .un]) (ns.map .int) [] [] = .ok (.lst ((ns.map fun x => x + 7919 * t).map .int)) .own [] := by
    rw [lcI_m (e := PV.int) (h := fun x => .int (x + 7919 * t)), List.map_map]
    · rfl
    · intro x _
      rw [lcT_eq]
      simp [setS, m]
  have l9 : ¬ 16000000 < ns.length := by omega
  have c := c52 (ns := ns.map fun x => x + 7919 * t) (sl := .own (.lst ((ns.map fun x => x + 7919 * t).map .int))) rfl
  have di := datas_ints ns
  unfold b53_0
  refine seq_to (r1 := [.sh (.lst (ns.map .int)), .sh (.int t), .un]) (S1 := []) ?_ ?_
  · rw [exS_ife, evT_not, evT_e, evE_call, evA_cons, evE_lc, evI_seq, evE_var]
    rw [show slotR [] [Sl.sh (.lst (ns.map .int)), .sh (.int t), .un][0]? = .ok (.lst (ns.map .int)) .sh [] from rfl, seqR_lst, Md.walk_sh, if_pos rfl, lcR_ok, List.length_map, if_neg (by unfold lim; exact l9), lc, argR_ok, evA_nil, argR2_own, callR_ok, c]
    rfl
  · cases ns with
    | nil => simp [setS]
    | cons x r =>
      simp only [List.map_cons] at di
      simp [setS, di]
theorem law53 : ∀ ns : List Int, ns.length ≤ 63 → ∃ S, callN G D 30 53 [.sh (.lst (ns.map .int))] [] = .ok (.bl true) .sh S := by
  intro ns hl
  refine ⟨[], ?_⟩
  rw [run_eq (n := 29) (d := d53) rfl rfl]
  have lp : forT (.nm 1) (exB G (callN G D 29) b53_0) (([0, 1, 2, 3, 4, 5, 6, 7] : List Int).map .int) [.sh (.lst (ns.map .int)), .un, .un] [] = .nx [.sh (.lst (ns.map .int)), .un, .un] [] := by
    have eb : ∀ t : Int, bindG [] (.nm 1) (.int t) [.sh (.lst (ns.map .int)), .un, .un] = some [.sh (.lst (ns.map .int)), .sh (.int t), .un] := fun _ => rfl
    cases he : ns.isEmpty with
    | true =>
      rw [List.map_cons, forT_cons, eb, forO_some, b53 hl, he]
      rfl
    | false =>
      refine forT_same fun t _ => .inl ?_
      rw [eb, forO_some, b53 hl, he]
      rfl
  have e0 : List.map share [Sl.sh (.lst (ns.map .int))] ++ List.replicate (d53.slots - d53.params) Sl.un = [.sh (.lst (ns.map .int)), .un, .un] := rfl
  have r8 : range 0 (Int.toNat 8) = ([0, 1, 2, 3, 4, 5, 6, 7] : List Int).map .int := rfl
  have body : exB G (callN G D 29) d53.body [.sh (.lst (ns.map .int)), .un, .un] [] = .ret (.bl true) .sh [] := by
    unfold d53
    simp only
    refine seq_to (r1 := [.sh (.lst (ns.map .int)), .un, .un]) (S1 := []) ?_ ?_
    · rw [exS_for, evI_rng1, evE_lit, rngR_int, if_pos (by decide), forR_ok, r8]
      exact lp
    · simp
  rw [e0, body]
  rfl
end PR

theorem K22.law_ok : ∀ ns : List Int, ns.length ≤ 63 → ∃ S, SR.callN PR.G PR.D 30 53 [.sh (.lst (ns.map .int))] [] = .ok (.bl true) .sh S := PR.law53
namespace K22
open SR PR
open PySem (Addr Value)
def gF : Nat → Option PySem.Str := (fun i => match i with | 0 => some "reckoned" | 1 => some "joined" | 2 => some "met" | 4 => some "by_ends" | 5 => some "divided" | 6 => some "asked" | 7 => some "stretch_of" | 44 => some "reckoned_from" | 45 => some "without_worth" | 46 => some "kept_to" | 47 => some "unlike_to" | 48 => some "behind" | 8 => some "_law_cell" | 9 => some "_law_pick" | 10 => some "_law_reckoned" | 49 => some "_law_side" | 50 => some "_law_so" | 51 => some "_law_hull" | 52 => some "_law_once" | 53 => some "law" | _ => none)
def gC : Nat → Option PySem.Str := (fun i => match i with | 11 => some "WIDE" | 3 => some "LEAST" | 2 => some "GREATEST" | _ => none)
def gT : Nat → Option PySem.Str := (fun i => match i with  | _ => none)
def gM : Nat → Option PySem.Str := (fun i => match i with  | _ => none)
def gK : Nat → Option PySem.Str := (fun i => match i with  | _ => none)
def gX : Nat → Option PySem.Str := (fun i => match i with  | _ => none)
def FL : List PySem.Str := []
theorem FLnd : FL.Nodup := by decide +kernel
def tb : Tb := ⟨fun c => match c with  | _ => 0, fun c => c ∈ [], FL, FLnd⟩
def xe : Nat → Value := fun c => match c with  | _ => .none
def g : Sg := ⟨gF, gM, gK, gC, ["int", "min", "max", "dict", "len", "sorted", "enumerate", "range", "list", "zip"], gT, gX, FL⟩
def top (i : Nat) : PySem.Stmt := PySem.Challenge.pw_smallrooms_k22_whole_behind.main.body.getD i (.Pass ⟨0, 0, 0, 0⟩)
abbrev s0 : PySem.Stmt := top 3
def N0 : List PySem.Str := ["word", "one", "other"]
theorem ck0 : ckB g N0 (L2.defScope s0) d0.body (L2.defBody s0) = true := by decide +kernel
theorem sc0 : L2.FnScope N0 ["word", "one", "other"] (L2.defScope s0) := ⟨rfl, rfl, rfl, by decide +kernel, rfl, by decide +kernel, by decide +kernel⟩
abbrev s1 : PySem.Stmt := top 6
def N1 : List PySem.Str := ["one", "other"]
theorem ck1 : ckB g N1 (L2.defScope s1) d1.body (L2.defBody s1) = true := by decide +kernel
theorem sc1 : L2.FnScope N1 ["one", "other"] (L2.defScope s1) := ⟨rfl, rfl, rfl, by decide +kernel, rfl, by decide +kernel, by decide +kernel⟩
abbrev s2 : PySem.Stmt := top 7
def N2 : List PySem.Str := ["one", "other"]
theorem ck2 : ckB g N2 (L2.defScope s2) d2.body (L2.defBody s2) = true := by decide +kernel
theorem sc2 : L2.FnScope N2 ["one", "other"] (L2.defScope s2) := ⟨rfl, rfl, rfl, by decide +kernel, rfl, by decide +kernel, by decide +kernel⟩
abbrev s4 : PySem.Stmt := top 8
def N4 : List PySem.Str := ["word", "one", "other", "worths", "mine", "yours"]
theorem ck4 : ckB g N4 (L2.defScope s4) d4.body (L2.defBody s4) = true := by decide +kernel
theorem sc4 : L2.FnScope N4 ["word", "one", "other"] (L2.defScope s4) := ⟨rfl, rfl, rfl, by decide +kernel, rfl, by decide +kernel, by decide +kernel⟩
abbrev s5 : PySem.Stmt := top 9
def N5 : List PySem.Str := ["one", "other", "made", "part"]
theorem ck5 : ckB g N5 (L2.defScope s5) d5.body (L2.defBody s5) = true := by decide +kernel
theorem sc5 : L2.FnScope N5 ["one", "other"] (L2.defScope s5) := ⟨rfl, rfl, rfl, by decide +kernel, rfl, by decide +kernel, by decide +kernel⟩
abbrev s6 : PySem.Stmt := top 10
def N6 : List PySem.Str := ["word", "one", "other", "together"]
theorem ck6 : ckB g N6 (L2.defScope s6) d6.body (L2.defBody s6) = true := by decide +kernel
theorem sc6 : L2.FnScope N6 ["word", "one", "other"] (L2.defScope s6) := ⟨rfl, rfl, rfl, by decide +kernel, rfl, by decide +kernel, by decide +kernel⟩
abbrev s7 : PySem.Stmt := top 11
def N7 : List PySem.Str := ["word", "one", "other"]
theorem ck7 : ckB g N7 (L2.defScope s7) d7.body (L2.defBody s7) = true := by decide +kernel
theorem sc7 : L2.FnScope N7 ["word", "one", "other"] (L2.defScope s7) := ⟨rfl, rfl, rfl, by decide +kernel, rfl, by decide +kernel, by decide +kernel⟩
abbrev s44 : PySem.Stmt := top 13
def N44 : List PySem.Str := ["expr", "book"]
theorem ck44 : ckB g N44 (L2.defScope s44) d44.body (L2.defBody s44) = true := by decide +kernel
theorem sc44 : L2.FnScope N44 ["expr", "book"] (L2.defScope s44) := ⟨rfl, rfl, rfl, by decide +kernel, rfl, by decide +kernel, by decide +kernel⟩
abbrev s45 : PySem.Stmt := top 14
def N45 : List PySem.Str := ["stretch", "worth", "low", "high"]
theorem ck45 : ckB g N45 (L2.defScope s45) d45.body (L2.defBody s45) = true := by decide +kernel
theorem sc45 : L2.FnScope N45 ["stretch", "worth"] (L2.defScope s45) := ⟨rfl, rfl, rfl, by decide +kernel, rfl, by decide +kernel, by decide +kernel⟩
abbrev s46 : PySem.Stmt := top 15
def N46 : List PySem.Str := ["book", "expr", "stretch", "left", "made"]
theorem ck46 : ckB g N46 (L2.defScope s46) d46.body (L2.defBody s46) = true := by decide +kernel
theorem sc46 : L2.FnScope N46 ["book", "expr", "stretch"] (L2.defScope s46) := ⟨rfl, rfl, rfl, by decide +kernel, rfl, by decide +kernel, by decide +kernel⟩
abbrev s47 : PySem.Stmt := top 16
def N47 : List PySem.Str := ["book", "expr", "stretch", "left"]
theorem ck47 : ckB g N47 (L2.defScope s47) d47.body (L2.defBody s47) = true := by decide +kernel
theorem sc47 : L2.FnScope N47 ["book", "expr", "stretch"] (L2.defScope s47) := ⟨rfl, rfl, rfl, by decide +kernel, rfl, by decide +kernel, by decide +kernel⟩
abbrev s48 : PySem.Stmt := top 17
def N48 : List PySem.Str := ["expr", "book", "is_so", "one", "other"]
theorem ck48 : ckB g N48 (L2.defScope s48) d48.body (L2.defBody s48) = true := by decide +kernel
theorem sc48 : L2.FnScope N48 ["expr", "book", "is_so"] (L2.defScope s48) := ⟨rfl, rfl, rfl, by decide +kernel, rfl, by decide +kernel, by decide +kernel⟩
abbrev s8 : PySem.Stmt := top 19
def N8 : List PySem.Str := ["_law_script", "_law_k"]
theorem ck8 : ckB g N8 (L2.defScope s8) d8.body (L2.defBody s8) = true := by decide +kernel
theorem sc8 : L2.FnScope N8 ["_law_script", "_law_k"] (L2.defScope s8) := ⟨rfl, rfl, rfl, by decide +kernel, rfl, by decide +kernel, by decide +kernel⟩
abbrev s9 : PySem.Stmt := top 20
def N9 : List PySem.Str := ["_law_script", "_law_k", "_law_many", "_law_drawn"]
theorem ck9 : ckB g N9 (L2.defScope s9) d9.body (L2.defBody s9) = true := by decide +kernel
theorem sc9 : L2.FnScope N9 ["_law_script", "_law_k", "_law_many"] (L2.defScope s9) := ⟨rfl, rfl, rfl, by decide +kernel, rfl, by decide +kernel, by decide +kernel⟩
abbrev s10 : PySem.Stmt := top 21
def N10 : List PySem.Str := ["_law_word", "_law_one", "_law_other"]
theorem ck10 : ckB g N10 (L2.defScope s10) d10.body (L2.defBody s10) = true := by decide +kernel
theorem sc10 : L2.FnScope N10 ["_law_word", "_law_one", "_law_other"] (L2.defScope s10) := ⟨rfl, rfl, rfl, by decide +kernel, rfl, by decide +kernel, by decide +kernel⟩
abbrev s49 : PySem.Stmt := top 25
def N49 : List PySem.Str := ["_law_script", "_law_at"]
theorem ck49 : ckB g N49 (L2.defScope s49) d49.body (L2.defBody s49) = true := by decide +kernel
theorem sc49 : L2.FnScope N49 ["_law_script", "_law_at"] (L2.defScope s49) := ⟨rfl, rfl, rfl, by decide +kernel, rfl, by decide +kernel, by decide +kernel⟩
abbrev s50 : PySem.Stmt := top 26
def N50 : List PySem.Str := ["_law_expr", "_law_book"]
theorem ck50 : ckB g N50 (L2.defScope s50) d50.body (L2.defBody s50) = true := by decide +kernel
theorem sc50 : L2.FnScope N50 ["_law_expr", "_law_book"] (L2.defScope s50) := ⟨rfl, rfl, rfl, by decide +kernel, rfl, by decide +kernel, by decide +kernel⟩
abbrev s51 : PySem.Stmt := top 27
def N51 : List PySem.Str := ["_law_worths"]
theorem ck51 : ckB g N51 (L2.defScope s51) d51.body (L2.defBody s51) = true := by decide +kernel
theorem sc51 : L2.FnScope N51 ["_law_worths"] (L2.defScope s51) := ⟨rfl, rfl, rfl, by decide +kernel, rfl, by decide +kernel, by decide +kernel⟩
abbrev s52 : PySem.Stmt := top 28
def N52 : List PySem.Str := ["_law_script", "_law_book", "_law_k", "_law_name", "_law_low", "_law_expr", "_law_is_so", "_law_fits", "_law_a", "_law_told", "_law_alone", "_law_hulls", "_law_b", "_law_hull_here", "_law_names", "_law_high", "_law_side_here", "_law_pair"]
theorem ck52 : ckB g N52 (L2.defScope s52) d52.body (L2.defBody s52) = true := by decide +kernel
theorem sc52 : L2.FnScope N52 ["_law_script"] (L2.defScope s52) := ⟨rfl, rfl, rfl, by decide +kernel, rfl, by decide +kernel, by decide +kernel⟩
abbrev s53 : PySem.Stmt := top 29
def N53 : List PySem.Str := ["_law_script", "_law_turn", "_law_cell_here"]
theorem ck53 : ckB g N53 (L2.defScope s53) d53.body (L2.defBody s53) = true := by decide +kernel
theorem sc53 : L2.FnScope N53 ["_law_script"] (L2.defScope s53) := ⟨rfl, rfl, rfl, by decide +kernel, rfl, by decide +kernel, by decide +kernel⟩
variable {P : PySem.Program} {w : PySem.World}
set_option maxHeartbeats 0 in
theorem all_mk {K : PySem.W.Frag} {h : PySem.Heap} {mg : PySem.Str → Option Value} {fa f0 f1 f2 f4 f5 f6 f7 f44 f45 f46 f47 f48 f8 f9 f10 f49 f50 f51 f52 f53 : Addr} {u11 u3 u2 : Value} (X : K.In h) (Gn : h.Ns PySem.mainGlobals mg) (hfa : mg "law" = some (.ref fa))
    {od0 an0 od1 an1 od2 an2 od4 an4 od5 an5 od6 an6 od7 an7 od44 an44 od45 an45 od46 an46 od47 an47 od48 an48 od8 an8 od9 an9 od10 an10 od49 an49 od50 an50 od51 an51 od52 an52 od53 an53 : Option Addr} {sl0 sl1 sl2 sl4 sl5 sl6 sl7 sl44 sl45 sl46 sl47 sl48 sl8 sl9 sl10 sl49 sl50 sl51 sl52 sl53 : Array (Option Value)} {oc0 kV0 dc0 pm0 cd0 ct0 oc1 kV1 dc1 pm1 cd1 ct1 oc2 kV2 dc2 pm2 cd2 ct2 oc4 kV4 dc4 pm4 cd4 ct4 oc5 kV5 dc5 pm5 cd5 ct5 oc6 kV6 dc6 pm6 cd6 ct6 oc7 kV7 dc7 pm7 cd7 ct7 oc44 kV44 dc44 pm44 cd44 ct44 oc45 kV45 dc45 pm45 cd45 ct45 oc46 kV46 dc46 pm46 cd46 ct46 oc47 kV47 dc47 pm47 cd47 ct47 oc48 kV48 dc48 pm48 cd48 ct48 oc8 kV8 dc8 pm8 cd8 ct8 oc9 kV9 dc9 pm9 cd9 ct9 oc10 kV10 dc10 pm10 cd10 ct10 oc49 kV49 dc49 pm49 cd49 ct49 oc50 kV50 dc50 pm50 cd50 ct50 oc51 kV51 dc51 pm51 cd51 ct51 oc52 kV52 dc52 pm52 cd52 ct52 oc53 kV53 dc53 pm53 cd53 ct53 : Value}
    (a0 : PySem.W.nsIn K PySem.mainGlobals "reckoned" = some (some (.ref f0)))
    (l0 : K.lookup f0 = some ⟨oc0, od0, .func (PySem.W.fnOf "reckoned" "reckoned" (L2.defArgs s0) (L2.defBody s0) (L2.defScope s0) .none kV0 dc0 pm0 an0 cd0 ct0), sl0⟩) (c0 : PySem.W.codeIn K cd0 "reckoned" = true) (k0 : PySem.W.keepIn K (.ref f0) = true)
    (a1 : PySem.W.nsIn K PySem.mainGlobals "joined" = some (some (.ref f1)))
    (l1 : K.lookup f1 = some ⟨oc1, od1, .func (PySem.W.fnOf "joined" "joined" (L2.defArgs s1) (L2.defBody s1) (L2.defScope s1) .none kV1 dc1 pm1 an1 cd1 ct1), sl1⟩) (c1 : PySem.W.codeIn K cd1 "joined" = true) (k1 : PySem.W.keepIn K (.ref f1) = true)
    (a2 : PySem.W.nsIn K PySem.mainGlobals "met" = some (some (.ref f2)))
    (l2 : K.lookup f2 = some ⟨oc2, od2, .func (PySem.W.fnOf "met" "met" (L2.defArgs s2) (L2.defBody s2) (L2.defScope s2) .none kV2 dc2 pm2 an2 cd2 ct2), sl2⟩) (c2 : PySem.W.codeIn K cd2 "met" = true) (k2 : PySem.W.keepIn K (.ref f2) = true)
    (a4 : PySem.W.nsIn K PySem.mainGlobals "by_ends" = some (some (.ref f4)))
    (l4 : K.lookup f4 = some ⟨oc4, od4, .func (PySem.W.fnOf "by_ends" "by_ends" (L2.defArgs s4) (L2.defBody s4) (L2.defScope s4) .none kV4 dc4 pm4 an4 cd4 ct4), sl4⟩) (c4 : PySem.W.codeIn K cd4 "by_ends" = true) (k4 : PySem.W.keepIn K (.ref f4) = true)
    (a5 : PySem.W.nsIn K PySem.mainGlobals "divided" = some (some (.ref f5)))
    (l5 : K.lookup f5 = some ⟨oc5, od5, .func (PySem.W.fnOf "divided" "divided" (L2.defArgs s5) (L2.defBody s5) (L2.defScope s5) .none kV5 dc5 pm5 an5 cd5 ct5), sl5⟩) (c5 : PySem.W.codeIn K cd5 "divided" = true) (k5 : PySem.W.keepIn K (.ref f5) = true)
    (a6 : PySem.W.nsIn K PySem.mainGlobals "asked" = some (some (.ref f6)))
    (l6 : K.lookup f6 = some ⟨oc6, od6, .func (PySem.W.fnOf "asked" "asked" (L2.defArgs s6) (L2.defBody s6) (L2.defScope s6) .none kV6 dc6 pm6 an6 cd6 ct6), sl6⟩) (c6 : PySem.W.codeIn K cd6 "asked" = true) (k6 : PySem.W.keepIn K (.ref f6) = true)
    (a7 : PySem.W.nsIn K PySem.mainGlobals "stretch_of" = some (some (.ref f7)))
    (l7 : K.lookup f7 = some ⟨oc7, od7, .func (PySem.W.fnOf "stretch_of" "stretch_of" (L2.defArgs s7) (L2.defBody s7) (L2.defScope s7) .none kV7 dc7 pm7 an7 cd7 ct7), sl7⟩) (c7 : PySem.W.codeIn K cd7 "stretch_of" = true) (k7 : PySem.W.keepIn K (.ref f7) = true)
    (a44 : PySem.W.nsIn K PySem.mainGlobals "reckoned_from" = some (some (.ref f44)))
    (l44 : K.lookup f44 = some ⟨oc44, od44, .func (PySem.W.fnOf "reckoned_from" "reckoned_from" (L2.defArgs s44) (L2.defBody s44) (L2.defScope s44) .none kV44 dc44 pm44 an44 cd44 ct44), sl44⟩) (c44 : PySem.W.codeIn K cd44 "reckoned_from" = true) (k44 : PySem.W.keepIn K (.ref f44) = true)
    (a45 : PySem.W.nsIn K PySem.mainGlobals "without_worth" = some (some (.ref f45)))
    (l45 : K.lookup f45 = some ⟨oc45, od45, .func (PySem.W.fnOf "without_worth" "without_worth" (L2.defArgs s45) (L2.defBody s45) (L2.defScope s45) .none kV45 dc45 pm45 an45 cd45 ct45), sl45⟩) (c45 : PySem.W.codeIn K cd45 "without_worth" = true) (k45 : PySem.W.keepIn K (.ref f45) = true)
    (a46 : PySem.W.nsIn K PySem.mainGlobals "kept_to" = some (some (.ref f46)))
    (l46 : K.lookup f46 = some ⟨oc46, od46, .func (PySem.W.fnOf "kept_to" "kept_to" (L2.defArgs s46) (L2.defBody s46) (L2.defScope s46) .none kV46 dc46 pm46 an46 cd46 ct46), sl46⟩) (c46 : PySem.W.codeIn K cd46 "kept_to" = true) (k46 : PySem.W.keepIn K (.ref f46) = true)
    (a47 : PySem.W.nsIn K PySem.mainGlobals "unlike_to" = some (some (.ref f47)))
    (l47 : K.lookup f47 = some ⟨oc47, od47, .func (PySem.W.fnOf "unlike_to" "unlike_to" (L2.defArgs s47) (L2.defBody s47) (L2.defScope s47) .none kV47 dc47 pm47 an47 cd47 ct47), sl47⟩) (c47 : PySem.W.codeIn K cd47 "unlike_to" = true) (k47 : PySem.W.keepIn K (.ref f47) = true)
    (a48 : PySem.W.nsIn K PySem.mainGlobals "behind" = some (some (.ref f48)))
    (l48 : K.lookup f48 = some ⟨oc48, od48, .func (PySem.W.fnOf "behind" "behind" (L2.defArgs s48) (L2.defBody s48) (L2.defScope s48) .none kV48 dc48 pm48 an48 cd48 ct48), sl48⟩) (c48 : PySem.W.codeIn K cd48 "behind" = true) (k48 : PySem.W.keepIn K (.ref f48) = true)
    (a8 : PySem.W.nsIn K PySem.mainGlobals "_law_cell" = some (some (.ref f8)))
    (l8 : K.lookup f8 = some ⟨oc8, od8, .func (PySem.W.fnOf "_law_cell" "_law_cell" (L2.defArgs s8) (L2.defBody s8) (L2.defScope s8) .none kV8 dc8 pm8 an8 cd8 ct8), sl8⟩) (c8 : PySem.W.codeIn K cd8 "_law_cell" = true) (k8 : PySem.W.keepIn K (.ref f8) = true)
    (a9 : PySem.W.nsIn K PySem.mainGlobals "_law_pick" = some (some (.ref f9)))
    (l9 : K.lookup f9 = some ⟨oc9, od9, .func (PySem.W.fnOf "_law_pick" "_law_pick" (L2.defArgs s9) (L2.defBody s9) (L2.defScope s9) .none kV9 dc9 pm9 an9 cd9 ct9), sl9⟩) (c9 : PySem.W.codeIn K cd9 "_law_pick" = true) (k9 : PySem.W.keepIn K (.ref f9) = true)
    (a10 : PySem.W.nsIn K PySem.mainGlobals "_law_reckoned" = some (some (.ref f10)))
    (l10 : K.lookup f10 = some ⟨oc10, od10, .func (PySem.W.fnOf "_law_reckoned" "_law_reckoned" (L2.defArgs s10) (L2.defBody s10) (L2.defScope s10) .none kV10 dc10 pm10 an10 cd10 ct10), sl10⟩) (c10 : PySem.W.codeIn K cd10 "_law_reckoned" = true) (k10 : PySem.W.keepIn K (.ref f10) = true)
    (a49 : PySem.W.nsIn K PySem.mainGlobals "_law_side" = some (some (.ref f49)))
    (l49 : K.lookup f49 = some ⟨oc49, od49, .func (PySem.W.fnOf "_law_side" "_law_side" (L2.defArgs s49) (L2.defBody s49) (L2.defScope s49) .none kV49 dc49 pm49 an49 cd49 ct49), sl49⟩) (c49 : PySem.W.codeIn K cd49 "_law_side" = true) (k49 : PySem.W.keepIn K (.ref f49) = true)
    (a50 : PySem.W.nsIn K PySem.mainGlobals "_law_so" = some (some (.ref f50)))
    (l50 : K.lookup f50 = some ⟨oc50, od50, .func (PySem.W.fnOf "_law_so" "_law_so" (L2.defArgs s50) (L2.defBody s50) (L2.defScope s50) .none kV50 dc50 pm50 an50 cd50 ct50), sl50⟩) (c50 : PySem.W.codeIn K cd50 "_law_so" = true) (k50 : PySem.W.keepIn K (.ref f50) = true)
    (a51 : PySem.W.nsIn K PySem.mainGlobals "_law_hull" = some (some (.ref f51)))
    (l51 : K.lookup f51 = some ⟨oc51, od51, .func (PySem.W.fnOf "_law_hull" "_law_hull" (L2.defArgs s51) (L2.defBody s51) (L2.defScope s51) .none kV51 dc51 pm51 an51 cd51 ct51), sl51⟩) (c51 : PySem.W.codeIn K cd51 "_law_hull" = true) (k51 : PySem.W.keepIn K (.ref f51) = true)
    (a52 : PySem.W.nsIn K PySem.mainGlobals "_law_once" = some (some (.ref f52)))
    (l52 : K.lookup f52 = some ⟨oc52, od52, .func (PySem.W.fnOf "_law_once" "_law_once" (L2.defArgs s52) (L2.defBody s52) (L2.defScope s52) .none kV52 dc52 pm52 an52 cd52 ct52), sl52⟩) (c52 : PySem.W.codeIn K cd52 "_law_once" = true) (k52 : PySem.W.keepIn K (.ref f52) = true)
    (a53 : PySem.W.nsIn K PySem.mainGlobals "law" = some (some (.ref f53)))
    (l53 : K.lookup f53 = some ⟨oc53, od53, .func (PySem.W.fnOf "law" "law" (L2.defArgs s53) (L2.defBody s53) (L2.defScope s53) .none kV53 dc53 pm53 an53 cd53 ct53), sl53⟩) (c53 : PySem.W.codeIn K cd53 "law" = true) (k53 : PySem.W.keepIn K (.ref f53) = true)
    (z0 : PySem.W.nsIn K PySem.mainGlobals "int" = some none)
    (z1 : PySem.W.nsIn K PySem.mainGlobals "min" = some none)
    (z2 : PySem.W.nsIn K PySem.mainGlobals "max" = some none)
    (z3 : PySem.W.nsIn K PySem.mainGlobals "dict" = some none)
    (z4 : PySem.W.nsIn K PySem.mainGlobals "len" = some none)
    (z5 : PySem.W.nsIn K PySem.mainGlobals "sorted" = some none)
    (z6 : PySem.W.nsIn K PySem.mainGlobals "enumerate" = some none)
    (z7 : PySem.W.nsIn K PySem.mainGlobals "range" = some none)
    (z8 : PySem.W.nsIn K PySem.mainGlobals "list" = some none)
    (z9 : PySem.W.nsIn K PySem.mainGlobals "zip" = some none)
    (x11 : PySem.W.nsIn K PySem.mainGlobals "WIDE" = some (some u11)) (y11 : wrB K 20 (.tup [(.int (-32768)), (.int 32767)]) u11 = true)
    (x3 : PySem.W.nsIn K PySem.mainGlobals "LEAST" = some (some u3)) (y3 : wrB K 20 (.int (-32768)) u3 = true)
    (x2 : PySem.W.nsIn K PySem.mainGlobals "GREATEST" = some (some u2)) (y2 : wrB K 20 (.int 32767) u2 = true)
    (nl : noLst K = true)
    (hlaw : ∀ ns : List Int, ns.length ≤ 63 → ∃ S, callN G D 30 53 [.sh (.lst (ns.map .int))] [] = .ok (.bl true) .sh S) :
    ∃ fd : PySem.FuncData, (∀ (s : PySem.Shared) (v : Value), PySem.BindsTo s fd ⟨[v], []⟩ [("_law_script", v)]) ∧ ∀ base : PySem.Heap, K.In base → base.Ns PySem.mainGlobals mg → L2.FnOk P w K mg base (L2.CX P w) (lev 30) fa fd ["_law_script"] (spLaw K 63) := by
  have e := hfa.symm.trans (PySem.W.mg_of X Gn a53)
  cases e
  have F0 := L2.fun_mk (st := s0) l0 c0 k0
  have b0 := F0.binds (ps := ["word", "one", "other"]) fun _ _ _ _ _ _ us hl => match us, hl with | [_, _, _], _ => rfl
  have F1 := L2.fun_mk (st := s1) l1 c1 k1
  have b1 := F1.binds (ps := ["one", "other"]) fun _ _ _ _ _ _ us hl => match us, hl with | [_, _], _ => rfl
  have F2 := L2.fun_mk (st := s2) l2 c2 k2
  have b2 := F2.binds (ps := ["one", "other"]) fun _ _ _ _ _ _ us hl => match us, hl with | [_, _], _ => rfl
  have F4 := L2.fun_mk (st := s4) l4 c4 k4
  have b4 := F4.binds (ps := ["word", "one", "other"]) fun _ _ _ _ _ _ us hl => match us, hl with | [_, _, _], _ => rfl
  have F5 := L2.fun_mk (st := s5) l5 c5 k5
  have b5 := F5.binds (ps := ["one", "other"]) fun _ _ _ _ _ _ us hl => match us, hl with | [_, _], _ => rfl
  have F6 := L2.fun_mk (st := s6) l6 c6 k6
  have b6 := F6.binds (ps := ["word", "one", "other"]) fun _ _ _ _ _ _ us hl => match us, hl with | [_, _, _], _ => rfl
  have F7 := L2.fun_mk (st := s7) l7 c7 k7
  have b7 := F7.binds (ps := ["word", "one", "other"]) fun _ _ _ _ _ _ us hl => match us, hl with | [_, _, _], _ => rfl
  have F44 := L2.fun_mk (st := s44) l44 c44 k44
  have b44 := F44.binds (ps := ["expr", "book"]) fun _ _ _ _ _ _ us hl => match us, hl with | [_, _], _ => rfl
  have F45 := L2.fun_mk (st := s45) l45 c45 k45
  have b45 := F45.binds (ps := ["stretch", "worth"]) fun _ _ _ _ _ _ us hl => match us, hl with | [_, _], _ => rfl
  have F46 := L2.fun_mk (st := s46) l46 c46 k46
  have b46 := F46.binds (ps := ["book", "expr", "stretch"]) fun _ _ _ _ _ _ us hl => match us, hl with | [_, _, _], _ => rfl
  have F47 := L2.fun_mk (st := s47) l47 c47 k47
  have b47 := F47.binds (ps := ["book", "expr", "stretch"]) fun _ _ _ _ _ _ us hl => match us, hl with | [_, _, _], _ => rfl
  have F48 := L2.fun_mk (st := s48) l48 c48 k48
  have b48 := F48.binds (ps := ["expr", "book", "is_so"]) fun _ _ _ _ _ _ us hl => match us, hl with | [_, _, _], _ => rfl
  have F8 := L2.fun_mk (st := s8) l8 c8 k8
  have b8 := F8.binds (ps := ["_law_script", "_law_k"]) fun _ _ _ _ _ _ us hl => match us, hl with | [_, _], _ => rfl
  have F9 := L2.fun_mk (st := s9) l9 c9 k9
  have b9 := F9.binds (ps := ["_law_script", "_law_k", "_law_many"]) fun _ _ _ _ _ _ us hl => match us, hl with | [_, _, _], _ => rfl
  have F10 := L2.fun_mk (st := s10) l10 c10 k10
  have b10 := F10.binds (ps := ["_law_word", "_law_one", "_law_other"]) fun _ _ _ _ _ _ us hl => match us, hl with | [_, _, _], _ => rfl
  have F49 := L2.fun_mk (st := s49) l49 c49 k49
  have b49 := F49.binds (ps := ["_law_script", "_law_at"]) fun _ _ _ _ _ _ us hl => match us, hl with | [_, _], _ => rfl
  have F50 := L2.fun_mk (st := s50) l50 c50 k50
  have b50 := F50.binds (ps := ["_law_expr", "_law_book"]) fun _ _ _ _ _ _ us hl => match us, hl with | [_, _], _ => rfl
  have F51 := L2.fun_mk (st := s51) l51 c51 k51
  have b51 := F51.binds (ps := ["_law_worths"]) fun _ _ _ _ _ _ us hl => match us, hl with | [_], _ => rfl
  have F52 := L2.fun_mk (st := s52) l52 c52 k52
  have b52 := F52.binds (ps := ["_law_script"]) fun _ _ _ _ _ _ us hl => match us, hl with | [_], _ => rfl
  have F53 := L2.fun_mk (st := s53) l53 c53 k53
  have b53 := F53.binds (ps := ["_law_script"]) fun _ _ _ _ _ _ us hl => match us, hl with | [_], _ => rfl
  have J0 : IsFn K D g 0 _ _ _ := ⟨b0, _, _, s0, N0, d0, F0, sc0, rfl, rfl, rfl, ck0⟩
  have I0 : IsDef K mg D g 0 "reckoned" _ _ _ := ⟨J0, by decide +kernel, PySem.W.mg_of X Gn a0, k0⟩
  have J1 : IsFn K D g 1 _ _ _ := ⟨b1, _, _, s1, N1, d1, F1, sc1, rfl, rfl, rfl, ck1⟩
  have I1 : IsDef K mg D g 1 "joined" _ _ _ := ⟨J1, by decide +kernel, PySem.W.mg_of X Gn a1, k1⟩
  have J2 : IsFn K D g 2 _ _ _ := ⟨b2, _, _, s2, N2, d2, F2, sc2, rfl, rfl, rfl, ck2⟩
  have I2 : IsDef K mg D g 2 "met" _ _ _ := ⟨J2, by decide +kernel, PySem.W.mg_of X Gn a2, k2⟩
  have J4 : IsFn K D g 4 _ _ _ := ⟨b4, _, _, s4, N4, d4, F4, sc4, rfl, rfl, rfl, ck4⟩
  have I4 : IsDef K mg D g 4 "by_ends" _ _ _ := ⟨J4, by decide +kernel, PySem.W.mg_of X Gn a4, k4⟩
  have J5 : IsFn K D g 5 _ _ _ := ⟨b5, _, _, s5, N5, d5, F5, sc5, rfl, rfl, rfl, ck5⟩
  have I5 : IsDef K mg D g 5 "divided" _ _ _ := ⟨J5, by decide +kernel, PySem.W.mg_of X Gn a5, k5⟩
  have J6 : IsFn K D g 6 _ _ _ := ⟨b6, _, _, s6, N6, d6, F6, sc6, rfl, rfl, rfl, ck6⟩
  have I6 : IsDef K mg D g 6 "asked" _ _ _ := ⟨J6, by decide +kernel, PySem.W.mg_of X Gn a6, k6⟩
  have J7 : IsFn K D g 7 _ _ _ := ⟨b7, _, _, s7, N7, d7, F7, sc7, rfl, rfl, rfl, ck7⟩
  have I7 : IsDef K mg D g 7 "stretch_of" _ _ _ := ⟨J7, by decide +kernel, PySem.W.mg_of X Gn a7, k7⟩
  have J44 : IsFn K D g 44 _ _ _ := ⟨b44, _, _, s44, N44, d44, F44, sc44, rfl, rfl, rfl, ck44⟩
  have I44 : IsDef K mg D g 44 "reckoned_from" _ _ _ := ⟨J44, by decide +kernel, PySem.W.mg_of X Gn a44, k44⟩
  have J45 : IsFn K D g 45 _ _ _ := ⟨b45, _, _, s45, N45, d45, F45, sc45, rfl, rfl, rfl, ck45⟩
  have I45 : IsDef K mg D g 45 "without_worth" _ _ _ := ⟨J45, by decide +kernel, PySem.W.mg_of X Gn a45, k45⟩
  have J46 : IsFn K D g 46 _ _ _ := ⟨b46, _, _, s46, N46, d46, F46, sc46, rfl, rfl, rfl, ck46⟩
  have I46 : IsDef K mg D g 46 "kept_to" _ _ _ := ⟨J46, by decide +kernel, PySem.W.mg_of X Gn a46, k46⟩
  have J47 : IsFn K D g 47 _ _ _ := ⟨b47, _, _, s47, N47, d47, F47, sc47, rfl, rfl, rfl, ck47⟩
  have I47 : IsDef K mg D g 47 "unlike_to" _ _ _ := ⟨J47, by decide +kernel, PySem.W.mg_of X Gn a47, k47⟩
  have J48 : IsFn K D g 48 _ _ _ := ⟨b48, _, _, s48, N48, d48, F48, sc48, rfl, rfl, rfl, ck48⟩
  have I48 : IsDef K mg D g 48 "behind" _ _ _ := ⟨J48, by decide +kernel, PySem.W.mg_of X Gn a48, k48⟩
  have J8 : IsFn K D g 8 _ _ _ := ⟨b8, _, _, s8, N8, d8, F8, sc8, rfl, rfl, rfl, ck8⟩
  have I8 : IsDef K mg D g 8 "_law_cell" _ _ _ := ⟨J8, by decide +kernel, PySem.W.mg_of X Gn a8, k8⟩
  have J9 : IsFn K D g 9 _ _ _ := ⟨b9, _, _, s9, N9, d9, F9, sc9, rfl, rfl, rfl, ck9⟩
  have I9 : IsDef K mg D g 9 "_law_pick" _ _ _ := ⟨J9, by decide +kernel, PySem.W.mg_of X Gn a9, k9⟩
  have J10 : IsFn K D g 10 _ _ _ := ⟨b10, _, _, s10, N10, d10, F10, sc10, rfl, rfl, rfl, ck10⟩
  have I10 : IsDef K mg D g 10 "_law_reckoned" _ _ _ := ⟨J10, by decide +kernel, PySem.W.mg_of X Gn a10, k10⟩
  have J49 : IsFn K D g 49 _ _ _ := ⟨b49, _, _, s49, N49, d49, F49, sc49, rfl, rfl, rfl, ck49⟩
  have I49 : IsDef K mg D g 49 "_law_side" _ _ _ := ⟨J49, by decide +kernel, PySem.W.mg_of X Gn a49, k49⟩
  have J50 : IsFn K D g 50 _ _ _ := ⟨b50, _, _, s50, N50, d50, F50, sc50, rfl, rfl, rfl, ck50⟩
  have I50 : IsDef K mg D g 50 "_law_so" _ _ _ := ⟨J50, by decide +kernel, PySem.W.mg_of X Gn a50, k50⟩
  have J51 : IsFn K D g 51 _ _ _ := ⟨b51, _, _, s51, N51, d51, F51, sc51, rfl, rfl, rfl, ck51⟩
  have I51 : IsDef K mg D g 51 "_law_hull" _ _ _ := ⟨J51, by decide +kernel, PySem.W.mg_of X Gn a51, k51⟩
  have J52 : IsFn K D g 52 _ _ _ := ⟨b52, _, _, s52, N52, d52, F52, sc52, rfl, rfl, rfl, ck52⟩
  have I52 : IsDef K mg D g 52 "_law_once" _ _ _ := ⟨J52, by decide +kernel, PySem.W.mg_of X Gn a52, k52⟩
  have J53 : IsFn K D g 53 _ _ _ := ⟨b53, _, _, s53, N53, d53, F53, sc53, rfl, rfl, rfl, ck53⟩
  have I53 : IsDef K mg D g 53 "law" _ _ _ := ⟨J53, by decide +kernel, PySem.W.mg_of X Gn a53, k53⟩
  have hdef : ∀ (i : Nat) (x : PySem.Str), g.fns i = some x → ∃ f fd ps, IsDef K mg D g i x f fd ps := by
    intro i x hx
    simp only [g, gF] at hx
    split at hx
    · cases hx; exact ⟨_, _, _, I0⟩
    · cases hx; exact ⟨_, _, _, I1⟩
    · cases hx; exact ⟨_, _, _, I2⟩
    · cases hx; exact ⟨_, _, _, I4⟩
    · cases hx; exact ⟨_, _, _, I5⟩
    · cases hx; exact ⟨_, _, _, I6⟩
    · cases hx; exact ⟨_, _, _, I7⟩
    · cases hx; exact ⟨_, _, _, I44⟩
    · cases hx; exact ⟨_, _, _, I45⟩
    · cases hx; exact ⟨_, _, _, I46⟩
    · cases hx; exact ⟨_, _, _, I47⟩
    · cases hx; exact ⟨_, _, _, I48⟩
    · cases hx; exact ⟨_, _, _, I8⟩
    · cases hx; exact ⟨_, _, _, I9⟩
    · cases hx; exact ⟨_, _, _, I10⟩
    · cases hx; exact ⟨_, _, _, I49⟩
    · cases hx; exact ⟨_, _, _, I50⟩
    · cases hx; exact ⟨_, _, _, I51⟩
    · cases hx; exact ⟨_, _, _, I52⟩
    · cases hx; exact ⟨_, _, _, I53⟩
    · cases hx
  have hcl : ∀ c, (tb ).ok c → L2.Cls K ((tb ).cls c) ∧ ∀ x ∈ (tb ).fns, L2.NoAttr K ((tb ).cls c) x := by
    intro c hc
    exact absurd hc List.not_mem_nil
  have hme : ∀ (c m i : Nat) (x : PySem.Str), (tb ).ok c → g.mts m = some x → G.meth c m = some i → IsMeth K (tb ) D g c i x := by
    intro c m i x hc hx hi
    exact absurd hc List.not_mem_nil
  have hnw : ∀ (c : Nat) (x : PySem.Str), g.cls c = some x → ∃ i, G.init c = some i ∧ IsMk K mg (tb ) D g c i x := by
    intro c x hx
    simp [g, gK] at hx
  have hrz : ∀ (c : Nat) (x : PySem.Str), g.exs c = some x → IsExc K mg (xe  c) x := by
    intro c x hx
    simp [g, gX] at hx
  have hblt : ∀ x ∈ g.blt, mg x = none := by
    intro x hx
    simp only [g, List.mem_cons, List.not_mem_nil, or_false] at hx
    rcases hx with rfl | rfl | rfl | rfl | rfl | rfl | rfl | rfl | rfl | rfl
    · exact PySem.W.mg_none_of X Gn z0
    · exact PySem.W.mg_none_of X Gn z1
    · exact PySem.W.mg_none_of X Gn z2
    · exact PySem.W.mg_none_of X Gn z3
    · exact PySem.W.mg_none_of X Gn z4
    · exact PySem.W.mg_none_of X Gn z5
    · exact PySem.W.mg_none_of X Gn z6
    · exact PySem.W.mg_none_of X Gn z7
    · exact PySem.W.mg_none_of X Gn z8
    · exact PySem.W.mg_none_of X Gn z9
  have hcon : ∀ (i : Nat) (x : PySem.Str) (v : PV) (b : Bool), g.con i = some x → G.consts[i]? = some (v, b) → (x == ("__debug__" : PySem.Str)) = false ∧ ∃ u z, mg x = some u ∧ L2.RelV z u ∧ ConR K v b z := by
    intro i x v b hx h2
    simp only [g, gC] at hx
    split at hx
    · cases hx; cases h2; obtain ⟨z, a, b⟩ := con_ok y11; exact ⟨by decide +kernel, _, z, PySem.W.mg_of X Gn x11, a, b⟩
    · cases hx; cases h2; obtain ⟨z, a, b⟩ := con_ok y3; exact ⟨by decide +kernel, _, z, PySem.W.mg_of X Gn x3, a, b⟩
    · cases hx; cases h2; obtain ⟨z, a, b⟩ := con_ok y2; exact ⟨by decide +kernel, _, z, PySem.W.mg_of X Gn x2, a, b⟩
    · cases hx
  have htab : ∀ (i : Nat) (x : PySem.Str) (kvs : List (Int × PV)), g.tab i = some x → G.tabs[i]? = some kvs → (x == ("__debug__" : PySem.Str)) = false ∧ ∃ d, mg x = some (.ref d) ∧ TabR K d kvs := by
    intro i x v hx h2
    simp [g, gT] at hx
  exact ⟨_, fun s v => .of_eq rfl, fun base _ _ => (fns_ok (base := base) (T := (tb )) (exc := xe ) hcon hblt htab hdef hcl hme hnw (fun f x h => h) hrz 30 53 _ _ _ J53).imp fun vs H Q E q => sp_law nl hlaw vs H Q E q⟩
end K22

open PySem PySem.W PyProof.Rows
set_option maxRecDepth 100000 in
set_option maxHeartbeats 0 in
theorem PySem.Challenge.cw_smallrooms_k22_whole_behind_holds : PySem.Challenge.rw_smallrooms_k22_whole_behind.Holds := by
  w_on; o_law; k_head; (case hw => w_witness2)
  k_fill
  refine SR.walk_sr (x := "_law_script") (l := PySem.Challenge.rw_smallrooms_k22_whole_behind) (m := 63) (n := SR.lev 30) rfl (by decide) rfl ⟨rfl, by decide, by decide⟩ (fun w h Y => PySem.W.kIn_of Y) ?F
  case F =>
    intro w mg fa h KX Gn hmg
    refine' K22.all_mk KX Gn hmg ?a0 ?l0 ?c0 ?k0 ?a1 ?l1 ?c1 ?k1 ?a2 ?l2 ?c2 ?k2 ?a4 ?l4 ?c4 ?k4 ?a5 ?l5 ?c5 ?k5 ?a6 ?l6 ?c6 ?k6 ?a7 ?l7 ?c7 ?k7 ?a44 ?l44 ?c44 ?k44 ?a45 ?l45 ?c45 ?k45 ?a46 ?l46 ?c46 ?k46 ?a47 ?l47 ?c47 ?k47 ?a48 ?l48 ?c48 ?k48 ?a8 ?l8 ?c8 ?k8 ?a9 ?l9 ?c9 ?k9 ?a10 ?l10 ?c10 ?k10 ?a49 ?l49 ?c49 ?k49 ?a50 ?l50 ?c50 ?k50 ?a51 ?l51 ?c51 ?k51 ?a52 ?l52 ?c52 ?k52 ?a53 ?l53 ?c53 ?k53 ?z0 ?z1 ?z2 ?z3 ?z4 ?z5 ?z6 ?z7 ?z8 ?z9 ?x11 ?y11 ?x3 ?y3 ?x2 ?y2 ?nl K22.law_ok
    (case a0 => k_is)
    (case l0 => k_is)
    (case c0 => k_is)
    (case k0 => k_is)
    (case a1 => k_is)
    (case l1 => k_is)
    (case c1 => k_is)
    (case k1 => k_is)
    (case a2 => k_is)
    (case l2 => k_is)
    (case c2 => k_is)
    (case k2 => k_is)
    (case a4 => k_is)
    (case l4 => k_is)
    (case c4 => k_is)
    (case k4 => k_is)
    (case a5 => k_is)
    (case l5 => k_is)
    (case c5 => k_is)
    (case k5 => k_is)
    (case a6 => k_is)
    (case l6 => k_is)
    (case c6 => k_is)
    (case k6 => k_is)
    (case a7 => k_is)
    (case l7 => k_is)
    (case c7 => k_is)
    (case k7 => k_is)
    (case a44 => k_is)
    (case l44 => k_is)
    (case c44 => k_is)
    (case k44 => k_is)
    (case a45 => k_is)
    (case l45 => k_is)
    (case c45 => k_is)
    (case k45 => k_is)
    (case a46 => k_is)
    (case l46 => k_is)
    (case c46 => k_is)
    (case k46 => k_is)
    (case a47 => k_is)
    (case l47 => k_is)
    (case c47 => k_is)
    (case k47 => k_is)
    (case a48 => k_is)
    (case l48 => k_is)
    (case c48 => k_is)
    (case k48 => k_is)
    (case a8 => k_is)
    (case l8 => k_is)
    (case c8 => k_is)
    (case k8 => k_is)
    (case a9 => k_is)
    (case l9 => k_is)
    (case c9 => k_is)
    (case k9 => k_is)
    (case a10 => k_is)
    (case l10 => k_is)
    (case c10 => k_is)
    (case k10 => k_is)
    (case a49 => k_is)
    (case l49 => k_is)
    (case c49 => k_is)
    (case k49 => k_is)
    (case a50 => k_is)
    (case l50 => k_is)
    (case c50 => k_is)
    (case k50 => k_is)
    (case a51 => k_is)
    (case l51 => k_is)
    (case c51 => k_is)
    (case k51 => k_is)
    (case a52 => k_is)
    (case l52 => k_is)
    (case c52 => k_is)
    (case k52 => k_is)
    (case a53 => k_is)
    (case l53 => k_is)
    (case c53 => k_is)
    (case k53 => k_is)
    (case z0 => k_is)
    (case z1 => k_is)
    (case z2 => k_is)
    (case z3 => k_is)
    (case z4 => k_is)
    (case z5 => k_is)
    (case z6 => k_is)
    (case z7 => k_is)
    (case z8 => k_is)
    (case z9 => k_is)
    (case x11 => k_is)
    (case y11 => rfl)
    (case x3 => k_is)
    (case y3 => rfl)
    (case x2 => k_is)
    (case y2 => rfl)
    (case nl => rfl)
