import PyProof.Rows.All
import HandS.TupSets
import KE.KeyNested
import PyProof.Rows.SetFrom
import PyProof.WalksMore
import Wide.All
import OpenK.AllK
import Wide.FinOn
import PyProof.EqAt
import PyProof.EqKinds
import PyProof.TupleCall
import KE.KStateDown
import Lean
import HandS.Base
import HandS.Call
import HandS.List
import HandS.Comp
import HandS.Ends
import HandS.More
import HandS.Words
import HandS.WordsExc
import HandS.Exc
import HandS.ExcOwn
import HandS.ExcInit
import HandS.Defaults
import HandS.IsInst
import HandS.Iter
import HandS.Zip
import HandS.Wide
import HandS.Deep
import HandS.Flow
import HandS.Dict
import KE.KDictKeyed
import HandS.TupLen
import HandS.Text
import KE.KRevSl
import HandS.WordsDict
import HandS.NoneIn
import KE.KDictWalk
import HandS.Rev
import KE.GoesMore
import PyProof.EnumMake
import HandS.SortInts
import HandS.Conv
import HandS.TryMany
import HandS.ExcField
import KE.SortCalls
import KE.SortKeyed
import KE.DataCmp
import PyProof.TupleOfSeq
import HandS.ExcValue
import KE.KDictSum
import KE.KDictCopyH
import KE.DataMinMax
import HandS.Style
import HandS.Strs
import KE.KDictZip
import KE.KDictDisplayH
import KE.KDictPairs
import HandS.ExcIs
import KE.KExcIs
import HandS.HeadHook1
import HandS.Head0
import HandS.Head1
import HandS.Head2
import HandS.HeadEnd
import HandS.HeadHook2
import PySem.Challenge.RW_jointmaps_k00_errors_each_of_its_own
set_option Elab.async false
set_option linter.all false
set_option maxRecDepth 100000
set_option maxHeartbeats 4000000
/-! Jm, part Sn: sets whose elements are tuples within tuples (up to 76). -/
namespace Jm
open PySem PySem.Spec PyProof.Rows L2
section
/-! sets whose elements are tuples within tuples -/
theorem forIn_any {α β : Type} {M : Model} {A : Around} {E : Value → Shared → Prop} {s : Shared} {f : α → Option β × Unit → Sem (ForInStep (Option β × Unit))} {Q : Option β × Unit → Shared → Prop} :
    ∀ (xs : List α), (∀ x ∈ xs, ∀ Q' : ForInStep (Option β × Unit) → Shared → Prop, Q' (.yield (none, ())) s → (∀ b, Q' (.done (some b, ())) s) → wpAny M A (f x (none, ())) Q' E s) → Q (none, ()) s → (∀ b, Q (some b, ()) s) → wpAny M A (forIn xs (none, ()) f) Q E s
  | [], _, h, _ => wpAny_pure h
  | x :: xs, hx, h, hb => by
    rw [List.forIn_cons]
    refine wpAny_bind (hx x (by simp) _ ?_ fun b => ?_)
    · exact forIn_any xs (fun y hy => hx y (by simp [hy])) h hb
    · exact wpAny_pure (hb b)
theorem forIn_none {α β : Type} {M : Model} {A : Around} {E : Value → Shared → Prop} {s : Shared} {f : α → Option β × Unit → Sem (ForInStep (Option β × Unit))} {Q : Option β × Unit → Shared → Prop} :
    ∀ (xs : List α), (∀ x ∈ xs, ∀ Q' : ForInStep (Option β × Unit) → Shared → Prop, Q' (.yield (none, ())) s → wpAny M A (f x (none, ())) Q' E s) → Q (none, ()) s → wpAny M A (forIn xs (none, ()) f) Q E s
  | [], _, h => wpAny_pure h
  | x :: xs, hx, h => by
    rw [List.forIn_cons]
    refine wpAny_bind (hx x (by simp) _ ?_)
    exact forIn_none xs (fun y hy => hx y (by simp [hy])) h
variable {P : Program} {w : World} {A : Around} {E : Value → Shared → Prop} {s : Shared}
/-- a key at an address -/
def NIs (h : Heap) (k : NestedKey) (a : Addr) : Prop := NestedIs h k (.ref a) ∧ k.depth ≤ 8
theorem nall_mem {h : Heap} : ∀ {ks : List NestedKey} {vs : List Value}, NestedAll h ks vs → ∀ v ∈ vs, ∃ k ∈ ks, NestedIs h k v
  | _, _, .nil, v, hv => nomatch hv
  | _, _, .cons (k := k) r t, v, hv => by
    rcases List.mem_cons.mp hv with e | e
    · subst e; exact ⟨k, by simp, r⟩
    · obtain ⟨k', h1, h2⟩ := nall_mem t v e
      exact ⟨k', by simp [h1], h2⟩
theorem depth_mem : ∀ {ks : List NestedKey} {k : NestedKey}, k ∈ ks → k.depth ≤ NestedKey.depthAll ks
  | k' :: ks, k, hk => by
    rw [NestedKey.depthAll.eq_2]
    rcases List.mem_cons.mp hk with e | e
    · subst e; omega
    · have := depth_mem e; omega
theorem typ_tup {a : Addr} {o : Obj} (h1 : s.heap.get? a = some o) (h2 : o.cls = .type "tuple") : s.TypeIs (.ref a) "tuple" := ⟨o, h1, h2⟩
theorem tup_hash : typeLookup (.type "tuple") "__hash__" = pure (some (.builtin "tuple.__hash__")) := by rfl
theorem hashBy_n : ∀ (n : Nat) (k : NestedKey) (v : Value) {Q : Bool → Shared → Prop}, NestedIs s.heap k v → (∀ b, Q b s) → wpAny (model P w) A (hashByValue n v) Q E s
  | n, _, _, _, .none, h => by rw [hashByValue.eq_def]; exact wpAny_pure (h _)
  | n, _, _, _, .bool _, h => by rw [hashByValue.eq_def]; exact wpAny_pure (h _)
  | n, _, _, _, .int _ _, h => by rw [hashByValue.eq_def]; exact wpAny_pure (h _)
  | n, _, _, _, .text _ _, h => by rw [hashByValue.eq_def]; exact wpAny_pure (h _)
  | 0, _, _, _, .tup _ _ _ _, h => by rw [hashByValue.eq_def]; exact wpAny_pure (h _)
  | n + 1, _, _, Q, .tup (o := o) (vs := vs) (n := m) h1 h2 h3 h4, h => by
    rw [hashByValue.eq_def]
    refine wpAny_bind (wpAny_specialOf (T := "tuple") ?_ tup_hash ?_)
    · exact typ_tup h1 h2
    · refine wpAny_bind (wpAny_seqItems h1 h3 ?_)
      refine wpAny_bind ?_
      simp only [Option.getD_some]
      rw [← Array.forIn_toList]
      refine forIn_any vs.toList (fun v hv Q' hy hd => ?_) ?_ ?_
      · obtain ⟨k, hk, hn⟩ := nall_mem h4 v hv
        refine wpAny_bind (hashBy_n n k v hn fun b => ?_)
        cases b
        · exact wpAny_pure (hd _)
        · exact wpAny_pure hy
      · exact wpAny_pure (h _)
      · exact fun b => wpAny_pure (h _)
theorem ofA_n : ∀ (n : Nat) (k : NestedKey) (v : Value) {Q : Bool → Shared → Prop}, NestedIs s.heap k v → k.depth ≤ n → Q false s → wpAny (model P w) A (ofAClassStatement n v) Q E s
  | n, _, _, _, .none, _, h => by rw [ofAClassStatement.eq_def]; exact wpAny_pure h
  | n, _, _, _, .bool _, _, h => by rw [ofAClassStatement.eq_def]; exact wpAny_pure h
  | n, _, _, _, .int _ _, _, h => by rw [ofAClassStatement.eq_def]; exact wpAny_pure h
  | n, _, _, _, .text _ _, _, h => by rw [ofAClassStatement.eq_def]; exact wpAny_pure h
  | 0, _, _, _, .tup (ks := ks) _ _ _ _, hd, h => by rw [NestedKey.depth.eq_4] at hd; omega
  | n + 1, _, _, Q, .tup (o := o) (vs := vs) (n := m) (ks := ks) h1 h2 h3 h4, hd, h => by
    rw [NestedKey.depth.eq_4] at hd
    rw [ofAClassStatement.eq_def]
    refine wpAny_bind (wpAny_typeOf (typ_tup h1 h2) ?_)
    simp only [beq_self_eq_true, if_true]
    refine wpAny_bind (wpAny_pure ?_)
    simp only [Bool.not_true, Bool.false_eq_true, if_false]
    refine wpAny_bind (wpAny_seqItems h1 h3 ?_)
    refine wpAny_bind ?_
    rw [← Array.forIn_toList]
    refine forIn_none vs.toList (fun v hv Q' hy => ?_) ?_
    · obtain ⟨k, hk, hn⟩ := nall_mem h4 v hv
      refine wpAny_bind (ofA_n n k v hn (by have := depth_mem hk; omega) ?_)
      exact wpAny_pure hy
    · exact wpAny_pure h
theorem quiet_n {k : NestedKey} {a : Addr} {Q : Bool → Shared → Prop} (h : NIs s.heap k a) (hq : Q true s) : wpAny (model P w) A (eqIsQuiet 8 (.ref a)) Q E s := quiet_key k _ 8 s h.1 h.2 A E Q hq
theorem seen_n {k : NestedKey} {b : Addr} {Q : Bool → Shared → Prop} (hb : NIs s.heap k b) {ys : List Value} (hy : ∀ y ∈ ys, ∃ k' c, y = .ref c ∧ NIs s.heap k' c) (h : Q false s) : wpAny (model P w) A (searchCouldBeSeen (.ref b) ys) Q E s := by
  unfold searchCouldBeSeen
  refine wpAny_bind (forIn_none ys (fun y hm Q' q => ?_) (wpAny_pure h))
  obtain ⟨k', c, rfl, hc⟩ := hy y hm
  dsimp only
  split
  · exact wpAny_pure q
  refine wpAny_bind (quiet_n hb ?_)
  simp only [Bool.not_true, Bool.false_eq_true, if_false]
  refine wpAny_bind (quiet_n hc ?_)
  simp only [Bool.not_true, Bool.false_eq_true, if_false]
  refine wpAny_bind (ofA_n 8 k _ hb.1 hb.2 ?_)
  simp only [Bool.false_eq_true, if_false]
  refine wpAny_bind (ofA_n 8 k' _ hc.1 hc.2 ?_)
  simp only [Bool.false_eq_true, if_false]
  exact wpAny_pure q

abbrev nh (w : World) (k : NestedKey) : Int := NestedKey.hash w k
structure SetN (P : Program) (w : World) (h : Heap) (a : Addr) (L : List (Addr × NestedKey)) (es : Array (Int × Value)) (ep : Nat) (t : SetTable) : Prop where
  ob : ∃ o, h.get? a = some o ∧ o.ExactSet ∧ o.data = .set es ep t
  rows : es.toList = L.map fun p => (nh w p.2, Value.ref p.1)
  tab : TabOk t (L.map fun p => nh w p.2)
  nd : (L.map (·.2)).Nodup
  tup : ∀ p ∈ L, NIs h p.2 p.1
  led : w.params.followText "set-order" = true ∨ t.led = true
  room : L.length * 5 < t.mask * 3
  few : L.length ≤ 76
variable {a : Addr} {L : List (Addr × NestedKey)} {es : Array (Int × Value)} {ep : Nat} {t : SetTable}
theorem SetN.size {h : Heap} (S : SetN P w h a L es ep t) : es.size = L.length := by
  have := congrArg List.length S.rows
  simpa using this
theorem SetN.psize {h : Heap} (S : SetN P w h a L es ep t) : t.place.size = L.length := by
  have := S.tab.sz
  simpa using this
theorem SetN.fits {h : Heap} (S : SetN P w h a L es ep t) : t.fits es.size = true := by
  unfold SetTable.fits SetTable.fill
  rw [S.psize, S.size, S.tab.dm]
  have := S.room
  simp
  omega
theorem SetN.gw {h : Heap} (S : SetN P w h a L es ep t) : t.gaveWay = false := by
  unfold SetTable.gaveWay
  have := mask_odd S.tab.mok
  simp [this]
theorem SetN.entry {h : Heap} (S : SetN P w h a L es ep t) {i : Nat} {p : Addr × NestedKey} (e : L[i]? = some p) : es[i]? = some (nh w p.2, .ref p.1) := by
  rw [← Array.getElem?_toList, S.rows, List.getElem?_map, e]; rfl
theorem nth_dummy (m : Nat) (p : SetTable.Probe) (k : Nat) : (nth m p k).dummy = p.dummy := by
  induction k with
  | zero => rfl
  | succ k ih => rw [nth_succ]; unfold adv; split <;> exact ih
theorem at_inj {l : List Nat} (r : Ris l) {i j : Nat} {x : Nat} (hi : l[i]? = some x) (hj : l[j]? = some x) : i = j := by
  have nd : l.Nodup := List.Pairwise.imp (fun h => Nat.ne_of_lt h) r
  obtain ⟨h1, e1⟩ := List.getElem?_eq_some_iff.mp hi
  obtain ⟨h2, e2⟩ := List.getElem?_eq_some_iff.mp hj
  exact (List.getElem_inj nd).mp (e1.trans e2.symm)
theorem search_fromN {ad : Bool} (S : SetN P w s.heap a L es ep t) {x : Addr} {k : NestedKey} (hx : NIs s.heap k x) (hu : A.units + 8 < cLine) {K : Nat} (hK : K < 10 * SetTable.turns t.mask)
    (hf : ¬ way t.mask (nh w k) K ∈ t.place.toList) (hb : ∀ c, c < K → way t.mask (nh w k) c ∈ t.place.toList) {Q : SetFound → Shared → Prop}
    (q1 : k ∈ L.map (·.2) → ∀ o, (ad = false → o.isSome = true) → Q (.there o) s) (q2 : ¬ k ∈ L.map (·.2) → Q (.free (way t.mask (nh w k) K) false) s) :
    ∀ (f c : Nat) (stand : Option SetTable.Probe), stand.getD (t.probeStart (nh w k)) = nth t.mask (runAt t.mask (SetTable.bits (nh w k) % (t.mask + 1)) (SetTable.bits (nh w k))) c → c ≤ K → K - c < f →
      (∀ (i : Nat) (p : Addr × NestedKey), L[i]? = some p → p.2 = k → ∃ c', c ≤ c' ∧ c' < K ∧ t.place.toList[i]? = some (way t.mask (nh w k) c')) →
      wpAny (model P w) A (setSearchFrom a (.ref x) (nh w k) ad f stand) Q E s
  | 0, c, _, _, _, h, _ => by omega
  | f + 1, c, stand, hs, hc, hk, hl => by
    obtain ⟨o, ho, hex, hd⟩ := S.ob
    rw [setSearchFrom_succ]
    refine wpAny_bind (wpAny_setState_of ho hd S.fits ?_)
    dsimp only
    rw [S.gw]
    simp only [Bool.false_eq_true, if_false]
    unfold SetTable.probe
    rw [hs]
    generalize hp : nth t.mask (runAt t.mask (SetTable.bits (nh w k) % (t.mask + 1)) (SetTable.bits (nh w k))) c = p0
    have wj : ∀ n, (nth t.mask p0 n).j = way t.mask (nh w k) (c + n) := fun n => by rw [← hp, ← nth_add]
    have pd : p0.dummy = none := by rw [← hp, nth_dummy]; rfl
    have hat : ∀ (i : Nat) (p : Addr × NestedKey), L[i]? = some p → ((es[i]?).map (fun x => x.1)).getD 0 = nh w p.2 := fun i p e => by rw [S.entry e]; rfl
    have hLi : ∀ i j, t.place.toList[i]? = some j → ∃ p, L[i]? = some p := fun i j e => by
      have h1 := (List.getElem?_eq_some_iff.mp e).1
      have h2 := S.psize
      rw [← Array.length_toList] at h2
      exact ⟨L[i], List.getElem?_eq_getElem (by omega)⟩
    rcases go_spec t S.tab.ris S.tab.dm (fun i => ((es[i]?).map (fun x => x.1)).getD 0) (nh w k) (10 * SetTable.turns t.mask) (K - c) p0 pd (by omega) (fun n hn => by rw [wj]; exact hb _ (by omega)) (by rw [wj, Nat.add_sub_cancel' hc]; exact hf) with ⟨n, i, hn, hi, hh, hmin, e⟩ | ⟨hmin, e⟩
    · rw [e]
      dsimp only
      obtain ⟨p, hpi⟩ := hLi i _ hi
      have hes := S.entry hpi
      have hmem : p ∈ L := List.mem_of_getElem? hpi
      have rest : wpAny (model P w) A (searchRest a (.ref x) (nh w k) ad f es t (nth t.mask p0 n).j i (nth t.mask p0 (n + 1))) Q E s := by
        unfold searchRest
        rw [hes]
        dsimp only
        refine wpAny_bind (wpAny_holding ((nestedKind P w).eqBool (x := p.2) (y := k) hu (S.tup p hmem) hx ?_))
        refine wpAny_bind (wpAny_setState_of ho hd S.fits ?_)
        dsimp only
        by_cases ek : p.2 = k
        · cases ad with
          | true =>
            simp only [ek, decide_true, Bool.and_self, if_true]
            exact wpAny_pure (q1 (List.mem_map.mpr ⟨p, hmem, ek⟩) none fun z => nomatch z)
          | false =>
            simp only [ek, decide_true, Bool.and_true, Bool.false_eq_true, if_false]
            have sm : t.sameMemory t.moves t.mask = some true := by simp [SetTable.sameMemory]
            rw [sm]
            dsimp only
            simp only [if_true]
            rw [slot_live S.tab.ris hi]
            dsimp only
            rw [hes]
            dsimp only
            refine wpAny_bind (wpAny_isSame_ref_self ?_)
            simp only [if_true]
            refine wpAny_bind (wpAny_pure ?_)
            dsimp only
            exact wpAny_pure (q1 (List.mem_map.mpr ⟨p, hmem, ek⟩) (some i) fun _ => rfl)
        · simp only [ek, decide_false, Bool.and_false, Bool.false_eq_true, if_false]
          have sm : t.sameMemory t.moves t.mask = some true := by simp [SetTable.sameMemory]
          rw [sm]
          dsimp only
          simp only [if_true]
          rw [slot_live S.tab.ris hi]
          dsimp only
          rw [hes]
          dsimp only
          refine wpAny_bind (wpAny_isSame_ref_self ?_)
          simp only [if_true]
          refine wpAny_bind (wpAny_pure ?_)
          dsimp only
          refine search_fromN S hx hu hK hf hb q1 q2 f (c + n + 1) (some _) ?_ (by omega) (by omega) fun i2 p2 e2 ek2 => ?_
          · rw [Option.getD_some, ← hp, ← nth_add]; rfl
          · obtain ⟨c', h1, h2, h3⟩ := hl i2 p2 e2 ek2
            have hc' : c' = c + (c' - c) := by omega
            rcases Nat.lt_trichotomy (c' - c) n with hlt | heq | hgt
            · exact absurd ((hat i2 p2 e2).trans (by rw [ek2])) (hmin (c' - c) i2 hlt (by rw [wj, ← hc']; exact h3))
            · rw [hc', heq, ← wj] at h3
              have := at_inj S.tab.ris hi h3
              subst this
              rw [hpi] at e2
              cases e2
              exact absurd ek2 ek
            · exact ⟨c', by omega, h2, h3⟩
      split
      · refine wpAny_bind (seen_n hx (fun y hy => ?_) ?_)
        · obtain ⟨e, he, rfl⟩ := List.mem_map.mp hy
          have he : e ∈ es.toList := by
            have := Array.mem_toList_iff.mp he
            exact Array.mem_toList_iff.mpr (Array.mem_filter.mp this).1
          rw [S.rows] at he
          obtain ⟨p', hp', rfl⟩ := List.mem_map.mp he
          exact ⟨p'.2, p'.1, rfl, S.tup p' hp'⟩
        · simp only [Bool.false_eq_true, if_false]
          exact rest
      · exact rest
    · rw [e]
      dsimp only
      rw [wj, Nat.add_sub_cancel' hc]
      refine wpAny_pure (q2 fun hm => ?_)
      obtain ⟨p, hp1, hp2⟩ := List.mem_map.mp hm
      obtain ⟨i, hi1, hi2⟩ := List.mem_iff_getElem.mp hp1
      have e1 : L[i]? = some p := by rw [List.getElem?_eq_getElem hi1, hi2]
      obtain ⟨c', h1, h2, h3⟩ := hl i p e1 hp2
      exact hmin (c' - c) i (by omega) (by rw [wj]; rw [show c + (c' - c) = c' by omega]; exact h3) ((hat i p e1).trans (by rw [hp2]))

theorem search_atN {ad : Bool} (S : SetN P w s.heap a L es ep t) {x : Addr} {k : NestedKey} (hx : NIs s.heap k x) (hu : A.units + 8 < cLine) {Q : SetFound → Shared → Prop}
    (q1 : k ∈ L.map (·.2) → ∀ o, (ad = false → o.isSome = true) → Q (.there o) s)
    (q2 : ∀ K, ¬ k ∈ L.map (·.2) → ¬ way t.mask (nh w k) K ∈ t.place.toList → (∀ c, c < K → way t.mask (nh w k) c ∈ t.place.toList) → Q (.free (way t.mask (nh w k) K) false) s) :
    wpAny (model P w) A (setSearch a (.ref x) (nh w k) ad) Q E s := by
  have hr := S.room
  obtain ⟨K, h1, h2, h3⟩ := S.tab.first (by rw [List.length_map]; omega) (nh w k)
  have hm : t.mask ≤ 127 := by rcases S.tab.mok with e | e | e <;> omega
  refine search_fromN S hx hu h1 h2 h3 q1 (fun hn => q2 K hn h2 h3) 100000 0 none ?_ (Nat.zero_le _) (by unfold SetTable.turns at h1; omega) fun i p e ek => ?_
  · rw [Option.getD_none, start_run]; rfl
  · have hi : i < L.length := (List.getElem?_eq_some_iff.mp e).1
    have hps := S.psize
    rw [← Array.length_toList] at hps
    have e2 : t.place.toList[i]? = some (t.place.toList[i]'(by omega)) := List.getElem?_eq_getElem (by omega)
    obtain ⟨k0, hk0, hw⟩ := S.tab.before (h := nh w k) h2 (i := i) (by rw [List.getElem?_map, e, Option.map_some, ek]) e2
    exact ⟨k0, Nat.zero_le _, hk0, by rw [hw]; exact e2⟩
theorem SameBut_nis {h h' : Heap} {k : NestedKey} {b : Addr} {o : Obj} (sb : Heap.SameBut a h h') (ho : h.get? a = some o) (hd : o.data = .set es ep t) (r : NIs h k b) : NIs h' k b := by
  refine ⟨NestedIs.at (fun b o' vs n e1 e2 => ?_) _ _ r.1, r.2⟩
  rw [sb.2 b (fun z => ?_)]
  · exact e1
  · subst z
    rw [ho] at e1; cases e1
    rw [hd] at e2; cases e2
theorem putSet_get {h : Heap} {o : Obj} {es' : Array (Int × Value)} {t' : SetTable} (ho : h.get? a = some o) (hex : o.ExactSet) (hd : o.data = .set es ep t) :
    ∃ o', (h.update a (Obj.putSet es' t')).get? a = some o' ∧ o'.ExactSet ∧ o'.data = .set es' (ep + 1) t' := by
  obtain ⟨c, d, dt, sl⟩ := o
  dsimp only at hd
  subst hd
  refine ⟨_, Heap.get?_update_self _ ho rfl, ?_, rfl⟩
  exact hex
theorem filterMap_range {α : Type} (l : List α) : (List.range l.length).filterMap (fun i => l[i]?) = l := by
  induction l with
  | nil => rfl
  | cons x l ih =>
    rw [List.length_cons, List.range_succ_eq_map, List.filterMap_cons]
    simp only [List.getElem?_cons_zero, List.filterMap_map]
    congr 1
theorem relay_atN {o : Obj} (ho : s.heap.get? a = some o) (hex : o.ExactSet) (hd : o.data = .set es ep t) (rows : es.toList = L.map fun p => (nh w p.2, Value.ref p.1)) (hp : t.place.size = es.size) (hdm : t.dummies = #[]) (hsz : es.size ≤ t.mask)
    (nd : (L.map (·.2)).Nodup) (tup : ∀ p ∈ L, NIs s.heap p.2 p.1) (led : w.params.followText "set-order" = true ∨ t.led = true) (few : L.length ≤ 76)
    {wanted M : Nat} (hM : SetTable.sizeAbove wanted - 1 = M) (mok : MaskOk M) (hsa : SetTable.sizeAbove wanted ≤ 128) (room : L.length * 5 < M * 3) {Q : Unit → Shared → Prop}
    (h : ∀ (h' : Heap) (L' : List (Addr × NestedKey)) (es' : Array (Int × Value)) (ep' : Nat) (t' : SetTable), Heap.SameBut a s.heap h' → SetN P w h' a L' es' ep' t' → L'.Perm L → Q () { s with heap := h' }) :
    wpAny (model P w) A (setRelay a wanted) Q E s := by
  rw [setRelay_eq]
  have hfit : t.fits es.size = true := by
    unfold SetTable.fits SetTable.fill
    rw [hp, hdm]
    simp
    omega
  refine wpAny_bind (wpAny_setState_of ho hd hfit ?_)
  dsimp only
  have hes : es.size = L.length := by have := congrArg List.length rows; simpa using this
  rw [if_neg (by rw [sizeLine_eq]; omega)]
  obtain ⟨t', order, e1, e2, e3, e4, e5, e6, e7⟩ := relaid_ok t (hs := es.map (·.1)) (wanted := wanted) hM mok (by rw [Array.size_map]; omega)
  rw [Array.size_map, hes] at e2
  refine wpAny_bind ?_
  rw [e1]
  dsimp only
  have hL : ∃ L' : List (Addr × NestedKey), order.toList.filterMap (fun i => L[i]?) = L' := ⟨_, rfl⟩
  obtain ⟨L', hL'⟩ := hL
  have hperm : L'.Perm L := by
    rw [← hL']
    have := e2.filterMap (fun i => L[i]?)
    rwa [filterMap_range] at this
  have hrow : (order.filterMap (fun x => es[x]?)).toList = L'.map fun p => (nh w p.2, Value.ref p.1) := by
    rw [Array.toList_filterMap, ← hL', List.map_filterMap]
    congr 1
    funext i
    rw [← Array.getElem?_toList, rows, List.getElem?_map]
  have hlt : ∀ i ∈ order.toList, i < L.length := fun i hi => List.mem_range.mp (e2.mem_iff.mp hi)
  have hhash : L'.map (fun p => nh w p.2) = order.toList.map (fun i => (es.map (·.1)).getD i 0) := by
    rw [← hL', List.map_filterMap]
    have : ∀ (l : List Nat), (∀ i ∈ l, i < L.length) → l.filterMap (fun i => (L[i]?).map fun p => nh w p.2) = l.map (fun i => (es.map (·.1)).getD i 0) := by
      intro l
      induction l with
      | nil => exact fun _ => rfl
      | cons i l ih =>
        intro hl
        have hi := hl i (by simp)
        have e : L[i]? = some L[i] := List.getElem?_eq_getElem hi
        have e' : es[i]? = some (nh w L[i].2, .ref L[i].1) := by rw [← Array.getElem?_toList, rows, List.getElem?_map, e]; rfl
        rw [List.filterMap_cons_some (b := nh w L[i].2) (by rw [e]; rfl), List.map_cons, ih fun j hj => hl j (by simp [hj])]
        congr 1
        rw [Array.getD_eq_getD_getElem?, Array.getElem?_map, e']
        rfl
    exact this _ hlt
  have hsize : (order.filterMap (fun x => es[x]?)).size = L.length := by
    rw [← Array.length_toList, hrow, List.length_map, hperm.length_eq]
  rw [if_neg (by rw [hsize, hes]; simp)]
  refine wpAny_pure ?_
  dsimp only
  refine wpAny_storeSet_of ho hd ?_ (by rw [hsize, sizeLine_eq]; omega)
  obtain ⟨o', ho', hex', hd'⟩ := putSet_get (es' := order.filterMap (fun x => es[x]?)) (t' := t') ho hex hd
  have sb := Heap.SameBut.update s.heap a (Obj.putSet (order.filterMap (fun x => es[x]?)) t')
  refine h _ L' _ (ep + 1) t' sb ⟨⟨o', ho', hex', hd'⟩, hrow, by rw [hhash]; exact e3, ?_, fun p hp => SameBut_nis sb ho hd (tup p (hperm.mem_iff.mp hp)), by rw [e5]; exact led, by rw [e4, hperm.length_eq]; exact room, by rw [hperm.length_eq]; exact few⟩ hperm
  exact (hperm.map (·.2)).nodup_iff.mpr nd

theorem add_atN (S : SetN P w s.heap a L es ep t) {x : Addr} {k : NestedKey} (hx : NIs s.heap k x) (hu : A.units + 8 < cLine) (hl : L.length + 1 ≤ 76) {Q : Bool → Shared → Prop}
    (h : ∀ (b : Bool) (h' : Heap) (L' : List (Addr × NestedKey)) (es' : Array (Int × Value)) (ep' : Nat) (t' : SetTable), Heap.SameBut a s.heap h' → SetN P w h' a L' es' ep' t' →
      (k ∈ L.map (·.2) → L' = L) → (¬ k ∈ L.map (·.2) → L'.Perm ((x, k) :: L)) → Q b { s with heap := h' }) :
    wpAny (model P w) A (setAddHashed a (.ref x) (nh w k)) Q E s := by
  obtain ⟨o, ho, hex, hd⟩ := S.ob
  unfold setAddHashed
  refine wpAny_holding ?_
  rw [show (100000 : Nat) = 99999 + 1 from rfl, setAddHashedIn_succ]
  refine wpAny_bind (wpAny_setState_of ho hd S.fits ?_)
  dsimp only
  have bs : byScan (.ref x) es = false := rfl
  rw [bs]
  simp only [Bool.false_eq_true, if_false]
  refine wpAny_bind (search_atN S hx hu (fun hm o _ => ?_) fun K hn hf hb => ?_)
  · dsimp only
    exact wpAny_pure (h _ s.heap L es ep t ⟨rfl, fun _ _ => rfl⟩ S (fun _ => rfl) fun z => absurd hm z)
  · dsimp only
    refine wpAny_bind (wpAny_setState_of ho hd S.fits ?_)
    dsimp only
    obtain ⟨p1, p2, p3, p4, p5, p6, p7, p8, p9⟩ := S.tab.put hf hb
    have ep2 : t.put (way t.mask (nh w k) K) = ((t.put (way t.mask (nh w k) K)).1, SetTable.below t.place (way t.mask (nh w k) K)) := by rw [← p1]
    rw [ep2]
    generalize (t.put (way t.mask (nh w k) K)).1 = t1 at *
    generalize SetTable.below t.place (way t.mask (nh w k) K) = q at *
    dsimp only
    rw [List.length_map] at p2 p9
    have go : ∀ byValue : Bool, wpAny (model P w) A (do
        storeSet a (SetTable.insertAt es q (nh w k, .ref x)) (if byValue = true then t1 else { t1 with plain := false })
        if (!false && (if byValue = true then t1 else { t1 with plain := false }).tooFull) = true then do
            setRelay a (SetTable.grown (es.size + 1))
            pure true
          else pure true) Q E s := by
      intro bv
      have ht2 : ∃ t2 : SetTable, (if bv = true then t1 else { t1 with plain := false }) = t2 ∧ t2.mask = t1.mask ∧ t2.place = t1.place ∧ t2.dummies = t1.dummies ∧ t2.led = t1.led := by
        cases bv
        · exact ⟨_, rfl, rfl, rfl, rfl, rfl⟩
        · exact ⟨_, rfl, rfl, rfl, rfl, rfl⟩
      obtain ⟨t2, e2, m2, pl2, d2, l2⟩ := ht2
      rw [e2]
      have rows' : (SetTable.insertAt es q (nh w k, Value.ref x)).toList = (L.take q ++ (x, k) :: L.drop q).map fun p => (nh w p.2, Value.ref p.1) := by
        rw [SetTable.toList_insertAt, S.rows]
        simp [List.map_take, List.map_drop]
      have perm' : (L.take q ++ (x, k) :: L.drop q).Perm ((x, k) :: L) := put_perm L q (x, k)
      have len' := perm'.length_eq
      rw [List.length_cons] at len'
      have size' : (SetTable.insertAt es q (nh w k, Value.ref x)).size = L.length + 1 := by
        rw [← Array.length_toList, rows', List.length_map, len']
      have tab' : TabOk t2 ((L.take q ++ (x, k) :: L.drop q).map fun p => nh w p.2) := by
        have e : ((L.take q ++ (x, k) :: L.drop q).map fun p => nh w p.2) = (L.map fun p => nh w p.2).take q ++ nh w k :: (L.map fun p => nh w p.2).drop q := by
          simp [List.map_take, List.map_drop]
        rw [e]
        exact ⟨by rw [pl2]; exact p3.ris, by rw [d2]; exact p3.dm, by rw [pl2]; exact p3.sz, by rw [m2]; exact p3.mok, by rw [pl2, m2]; exact p3.bd, by rw [pl2, m2]; exact p3.reach⟩
      have nd' : ((L.take q ++ (x, k) :: L.drop q).map (·.2)).Nodup := (perm'.map (·.2)).nodup_iff.mpr (List.nodup_cons.mpr ⟨hn, S.nd⟩)
      refine wpAny_bind (wpAny_storeSet_of ho hd ?_ (by rw [size', sizeLine_eq]; omega))
      obtain ⟨o', ho', hex', hd'⟩ := putSet_get (es' := SetTable.insertAt es q (nh w k, Value.ref x)) (t' := t2) ho hex hd
      have sb := Heap.SameBut.update s.heap a (Obj.putSet (SetTable.insertAt es q (nh w k, Value.ref x)) t2)
      generalize hh1 : s.heap.update a (Obj.putSet (SetTable.insertAt es q (nh w k, Value.ref x)) t2) = h1 at ho' sb ⊢
      have tup' : ∀ p ∈ L.take q ++ (x, k) :: L.drop q, NIs h1 p.2 p.1 := fun p hp => by
        refine SameBut_nis sb ho hd ?_
        rcases List.mem_cons.mp (perm'.mem_iff.mp hp) with e | e
        · subst e; exact hx
        · exact S.tup p e
      have fill2 : t2.fill = L.length + 1 := by rw [← p9]; unfold SetTable.fill; rw [pl2, d2]
      have led' : w.params.followText "set-order" = true ∨ t2.led = true := by rw [l2, p5]; exact S.led
      by_cases full : t2.tooFull = true
      · rw [full]
        simp only [Bool.not_false, Bool.and_self, if_true]
        have hr := S.room
        have hf2 : (L.length + 1) * 5 ≥ t.mask * 3 := by
          have := full
          unfold SetTable.tooFull at this
          rw [fill2, m2, p4] at this
          simpa using this
        have hM : ∃ M, SetTable.sizeAbove (SetTable.grown (es.size + 1)) - 1 = M ∧ MaskOk M ∧ SetTable.sizeAbove (SetTable.grown (es.size + 1)) ≤ 128 ∧ (L.length + 1) * 5 < M * 3 := by
          rw [S.size]
          rcases S.tab.mok with e | e | e
          · have : L.length = 4 := by omega
            rw [this, size_20]
            exact ⟨31, rfl, .inr (.inl rfl), by omega, by omega⟩
          · have : L.length = 18 := by omega
            rw [this, size_76]
            exact ⟨127, rfl, .inr (.inr rfl), by omega, by omega⟩
          · omega
        obtain ⟨M, hM1, hM2, hM3, hM4⟩ := hM
        have mle : (SetTable.insertAt es q (nh w k, Value.ref x)).size ≤ t2.mask := by
          rw [size', m2, p4]
          rcases S.tab.mok with e | e | e <;> omega
        refine wpAny_bind (relay_atN (s := { s with heap := h1 }) ho' hex' hd' rows' ?_ ?_ mle nd' tup' led' (by rw [len']; exact hl) hM1 hM2 hM3 (by rw [len']; exact hM4) ?_)
        · rw [size', pl2, p3.sz]
          have := len'
          simp only [List.length_append, List.length_cons, List.length_take, List.length_drop] at this ⊢
          simp
          omega
        · rw [d2]; exact p3.dm
        · intro h' L' es' ep' t' sb2 S2 pm
          refine wpAny_pure (h true h' L' es' ep' t' ⟨sb2.1.trans sb.1, fun b hb => (sb2.2 b hb).trans (sb.2 b hb)⟩ S2 (fun z => absurd z hn) fun _ => pm.trans perm')
      · have full : t2.tooFull = false := by simpa using full
        rw [full]
        simp only [Bool.and_false, Bool.false_eq_true, if_false]
        refine wpAny_pure (h true h1 _ _ (ep + 1) t2 sb ⟨⟨o', ho', hex', hd'⟩, rows', tab', nd', tup', led', ?_, by rw [len']; exact hl⟩ (fun z => absurd z hn) fun _ => perm')
        have := full
        unfold SetTable.tooFull at this
        rw [fill2] at this
        rw [len']
        simpa using this
    split
    · refine wpAny_bind (hashBy_n 8 k _ hx.1 fun b => ?_)
      exact go b
    · refine wpAny_bind (wpAny_pure ?_)
      exact go true
/-- the set of the first i of some things: no two the same, all of them -/
theorem find_atN (S : SetN P w s.heap a L es ep t) {x : Addr} {k : NestedKey} (hx : NIs s.heap k x) (hu : A.units + 8 < cLine) {Q : Option Nat → Shared → Prop}
    (h : ∀ r : Option Nat, r.isSome = decide (k ∈ L.map (·.2)) → Q r s) : wpAny (model P w) A (setFind a (.ref x) (nh w k)) Q E s := by
  obtain ⟨o, ho, hex, hd⟩ := S.ob
  unfold setFind setFindIn
  refine wpAny_bind (wpAny_setState_of ho hd S.fits ?_)
  dsimp only
  have bs : byScan (.ref x) es = false := rfl
  rw [bs]
  simp only [Bool.false_eq_true, if_false]
  refine wpAny_bind (search_atN (ad := false) S hx hu (fun hm o ho => ?_) fun K hn hf hb => ?_)
  · dsimp only
    exact wpAny_pure (h o (by rw [ho rfl, decide_eq_true hm]))
  · dsimp only
    exact wpAny_pure (h none (by rw [decide_eq_false hn]; rfl))
theorem SetN.typeIs (S : SetN P w s.heap a L es ep t) : s.TypeIs (.ref a) "set" := let ⟨o, h1, h2, _⟩ := S.ob; ⟨o, h1, h2.1⟩
theorem contains_atN (S : SetN P w s.heap a L es ep t) {x : Addr} {k : NestedKey} (hx : NIs s.heap k x) (hu : A.units + 11 < cLine) {Q : Bool → Shared → Prop}
    (h : Q (decide (k ∈ L.map (·.2))) { s with toks := s.toks + (nestedKind P w).draws k }) : wpAny (model P w) A (contains (.ref a) (.ref x)) Q E s := by
  unfold contains
  try with_reducible refine wpAny_holding ?_
  refine wpAny_bind (wpAny_specialOf S.typeIs F.slot_set_contains.lookup ?_)
  show wpAny _ _ (if (some (Value.builtin "set.__contains__") == some Value.none) = true then _ else _) _ E s
  rw [if_neg (by rw [beq_builtin_none]; exact Bool.false_ne_true)]
  refine wpAny_bind (wpAny_callSpecialUnlessNone?_slot (name := Str.ofString "__contains__") S.typeIs F.slot_set_contains
    (wpAny_call_entry F.slot_set_contains S.typeIs entry_set_contains ?_ (F.args_set_contains_2 _ _)))
  unfold Builtin.«frozenset.__contains__» Builtin.Frozenset.oneOther
  simp only [List.isEmpty_nil, bind_assoc]
  unfold Builtin.Frozenset.addrOf Builtin.Frozenset.withSetAsKey setContains
  refine wpAny_bind (wpAny_pure ?_)
  try dsimp only
  refine wpAny_bind (wpAny_pure ?_)
  try dsimp only
  refine wpAny_bind (wpAny_tryCatch ?_)
  refine wpAny_holding ?_
  refine wpAny_bind ((nestedKind P w).pyHash (k := k) (show A.in1.units + 8 < cLine by simp only [Around.in1_units]; omega) hx ?_)
  refine wpAny_bind (find_atN (s := { s with toks := s.toks + (nestedKind P w).draws k }) S hx (by simp only [Around.in1_units]; omega) fun r hr => ?_)
  refine wpAny_pure ?_
  show wpAny _ _ (ret (Value.bool r.isSome)) _ _ _
  rw [hr]
  exact wpAny_pure ⟨_, rfl, wpAny_truthy_bool h⟩
theorem in_setN (S : SetN P w s.heap a L es ep t) {x : Addr} {k : NestedKey} (hx : NIs s.heap k x) (hu : A.units + 11 < cLine) {Q : Value → Shared → Prop}
    (h : Q (.bool (decide (k ∈ L.map (·.2)))) { s with toks := s.toks + (nestedKind P w).draws k }) : wpAny (model P w) A (compareOp .In (.ref x) (.ref a)) Q E s := by
  show wpAny _ _ (do return .bool (← contains (.ref a) (.ref x))) Q E s
  exact wpAny_bind (contains_atN S hx hu (wpAny_pure h))
theorem notIn_setN (S : SetN P w s.heap a L es ep t) {x : Addr} {k : NestedKey} (hx : NIs s.heap k x) (hu : A.units + 11 < cLine) {Q : Value → Shared → Prop}
    (h : Q (.bool (!decide (k ∈ L.map (·.2)))) { s with toks := s.toks + (nestedKind P w).draws k }) : wpAny (model P w) A (compareOp .NotIn (.ref x) (.ref a)) Q E s := by
  show wpAny _ _ (do return .bool (!(← contains (.ref a) (.ref x)))) Q E s
  exact wpAny_bind (contains_atN S hx hu (wpAny_pure h))
structure GotN (ks : List (Addr × NestedKey)) (i : Nat) (L : List (Addr × NestedKey)) : Prop where
  nd : (L.map (·.2)).Nodup
  all : ∀ k, k ∈ L.map (·.2) ↔ k ∈ (ks.take i).map (·.2)
  len : L.length ≤ i
  sub : ∀ p ∈ L, p ∈ ks
theorem GotN.step {ks L L' : List (Addr × NestedKey)} {i : Nat} {x : Addr × NestedKey} (g : GotN ks i L) (e : ks[i]? = some x) (h1 : x.2 ∈ L.map (·.2) → L' = L) (h2 : ¬ x.2 ∈ L.map (·.2) → L'.Perm (x :: L)) : GotN ks (i + 1) L' := by
  have ht : (ks.take (i + 1)).map (·.2) = (ks.take i).map (·.2) ++ [x.2] := by
    rw [List.take_add_one, e]; simp
  by_cases hm : x.2 ∈ L.map (·.2)
  · rw [h1 hm]
    refine ⟨g.nd, fun k => ?_, by have := g.len; omega, g.sub⟩
    rw [ht, List.mem_append, List.mem_singleton, ← g.all k]
    exact ⟨.inl, fun z => z.elim id fun z => by rw [z]; exact hm⟩
  · have pm := h2 hm
    refine ⟨(pm.map (·.2)).nodup_iff.mpr (List.nodup_cons.mpr ⟨hm, g.nd⟩), fun k => ?_, by have := g.len; have := pm.length_eq; simp at this; omega, fun p hp => (List.mem_cons.mp (pm.mem_iff.mp hp)).elim (fun z => by rw [z]; exact List.mem_of_getElem? e) (g.sub p)⟩
    rw [ht, List.mem_append, List.mem_singleton, ← g.all k, (pm.map (·.2)).mem_iff, List.map_cons, List.mem_cons]
    exact ⟨fun z => z.elim .inr .inl, fun z => z.elim .inr .inl⟩
/-- what is a list or tuple stays -/
def Sqs (h h' : Heap) : Prop := ∀ (c : Addr) (o : Obj) (vs : Array Value) (n : Nat), h.get? c = some o → o.data = .seq vs n → h'.get? c = some o
theorem nis_keep {h h' : Heap} {k : NestedKey} {b : Addr} (r : NIs h k b) (hk : Sqs h h') : NIs h' k b :=
  ⟨NestedIs.at hk _ _ r.1, r.2⟩
theorem SetN.keep {h h' : Heap} {a : Addr} {L : List (Addr × NestedKey)} {es : Array (Int × Value)} {ep : Nat} {t : SetTable} (S : SetN P w h a L es ep t) (ha : ∀ o, h.get? a = some o → h'.get? a = some o) (hk : ∀ p ∈ L, NIs h' p.2 p.1) : SetN P w h' a L es ep t :=
  ⟨let ⟨o, h1, h2⟩ := S.ob; ⟨o, ha o h1, h2⟩, S.rows, S.tab, S.nd, hk, S.led, S.room, S.few⟩
theorem set_updateN {I : Addr} {fp wr : List Addr} {G : Array GenState → Array GenState → Prop} {n : Nat} {Pv : Nat → Value → Prop} {St : Nat → Shared → Prop} {R : Result → Shared → Prop}
    (W : WalksS P w A.in1 I fp wr G n Pv St) (S : Addr) (hSf : ¬ S ∈ fp) (ks : List (Addr × NestedKey)) (hn : n = ks.length) (hb : ks.length ≤ 76)
    (hP : ∀ i v, Pv i v → ∃ p, ks[i]? = some p ∧ v = .ref p.1) (h0 : Heap) (hk : ∀ p ∈ ks, NIs h0 p.2 p.1) (hu : A.in1.units + 8 < cLine) :
    ∀ (k i : Nat) (s : Shared), n - i = k → i ≤ n → St i s → Sqs h0 s.heap → (∀ b, b ∈ wr → ∀ o vs n, h0.get? b = some o → o.data ≠ .seq vs n) → (∀ o vs n, h0.get? S = some o → o.data ≠ .seq vs n) →
      (∃ L es ep t, SetN P w s.heap S L es ep t ∧ GotN ks i L) →
      (∀ (s' : Shared) (L : List (Addr × NestedKey)) (es : Array (Int × Value)) (ep : Nat) (t : SetTable), Moved (S :: wr) G s s' → SetN P w s'.heap S L es ep t → GotN ks n L → R (.ok (.ret .none)) s') →
      codeAny (model P w) A (.builtin "set.update.loop" { pos := [.ref S, .ref I] }) R s := by
  have hSw : ¬ S ∈ wr := fun h => hSf (W.sub S h)
  have hsub : ∀ b, b ∈ wr → b ∈ S :: wr := fun b hb => List.mem_cons_of_mem S hb
  intro k
  induction k with
  | zero =>
    intro i s hk0 hi hst hkeep hwr hS0 hS hR
    have e : i = n := by omega
    subst e
    obtain ⟨L, es, ep, t, hS1, hg⟩ := hS
    refine codeAny_builtin PyProof.Rows.F.entry_set_update_loop ?_
    rw [Around.under_plainId PyProof.Rows.F.plain_set_update_loop]
    refine wpAny_bind (W.done s _ _ hst fun s' hm => wpAny_pure ?_)
    have hk' : Sqs h0 s'.heap := fun b o vs n e e2 => hm.heap b o (fun z => hwr b z o vs n e e2) (hkeep b o vs n e e2)
    refine hR s' L es ep t (hm.mono hsub) (hS1.keep (fun o e => hm.heap S o hSw e) fun p hp => ?_) hg
    exact nis_keep (hk p (hg.sub p hp)) hk'
  | succ k ih =>
    intro i s hk0 hi hst hkeep hwr hS0 hS hR
    obtain ⟨L, es, ep, t, hS1, hg⟩ := hS
    refine codeAny_builtin PyProof.Rows.F.entry_set_update_loop ?_
    rw [Around.under_plainId PyProof.Rows.F.plain_set_update_loop]
    refine wpAny_bind (W.item i s _ _ (by omega) hst fun v s' hp hst' hm => ?_)
    obtain ⟨x, hx, rfl⟩ := hP i v hp
    have hk' : Sqs h0 s'.heap := fun b o vs n e e2 => hm.heap b o (fun z => hwr b z o vs n e e2) (hkeep b o vs n e e2)
    have hS2 : SetN P w s'.heap S L es ep t := hS1.keep (fun o e => hm.heap S o hSw e) fun p hp => nis_keep (hk p (hg.sub p hp)) hk'
    have hxn : NIs s'.heap x.2 x.1 := nis_keep (hk x (List.mem_of_getElem? hx)) hk'
    dsimp only
    refine wpAny_bind (wpAny_holding ?_)
    unfold setAdd
    refine wpAny_holding (wpAny_bind ((nestedKind P w).pyHash (k := x.2) hu hxn ?_))
    refine add_atN (s := { s' with toks := s'.toks + (nestedKind P w).draws x.2 }) hS2 hxn hu (by have := hg.len; omega) fun b h' L' es' ep' t' sb S3 h1 h2 => ?_
    refine wpAny_pure ⟨plainId_quiet PyProof.Rows.F.plain_set_update_loop _, ?_⟩
    have hk2 : Sqs h0 h' := fun b o vs n e e2 => by
      rw [sb.2 b (fun z => by rw [z] at e; exact hS0 o vs n e e2)]
      exact hk' b o vs n e e2
    refine ih (i + 1) _ (by omega) (by omega) (W.frame (i + 1) s' h' _ hst' (Nat.le_add_right _ _) fun b hb o e => ?_) hk2 hwr hS0 ⟨L', es', ep', t', S3, hg.step hx h1 h2⟩ fun s'' L2 es2 ep2 t2 hm2 hS' hg2 => hR s'' L2 es2 ep2 t2 ?_ hS' hg2
    · rw [sb.2 b (fun z => hSf (by rw [← z]; exact hb))]; exact e
    · have m1 : Moved (S :: wr) G s s' := hm.mono hsub
      have m2 : Moved (S :: wr) G s' { s' with heap := h', toks := s'.toks + (nestedKind P w).draws x.2 } := ⟨fun b o hb e => by
        rw [sb.2 b (fun z => hb (by rw [z]; exact List.mem_cons_self))]; exact e, W.grefl _, rfl, rfl, Nat.le_add_right _ _⟩
      exact m1.trans W.gtrans (m2.trans W.gtrans hm2)
theorem setN_fresh {h : Heap} {a : Addr} (e : h.get? a = some { cls := .type "set", data := .set #[] 0 (SetTable.fresh 0 0 !w.params.followText "set-order") }) : SetN P w h a [] #[] 0 (SetTable.fresh 0 0 !w.params.followText "set-order") := by
  have k := setTR_fresh (P := P) e
  exact ⟨k.ob, rfl, k.tab, List.nodup_nil, (fun p hp => nomatch hp), k.led, k.room, Nat.zero_le _⟩
theorem init_setN {S l : Addr} {items : Array Value} (ks : List (Addr × NestedKey)) (hh : A.handled = none) (hl : s.heap.IsList l items) (hit : items.toList = ks.map fun p => Value.ref p.1) (hk : ∀ p ∈ ks, NIs s.heap p.2 p.1) (hS0 : s.heap.get? S = some { cls := .type "set", data := .set #[] 0 (SetTable.fresh 0 0 !w.params.followText "set-order") })
    (hb : ks.length ≤ 76) (hu : A.in1.in1.units + 8 < cLine) {Q : Value → Shared → Prop}
    (h : ∀ (h' : Heap) (tk : Nat) (L : List (Addr × NestedKey)) (es : Array (Int × Value)) (ep : Nat) (t : SetTable), SetN P w h' S L es ep t → GotN ks ks.length L → (∀ b o, b ≠ S → s.heap.get? b = some o → h'.get? b = some o) → Q .none { s with heap := h', toks := tk }) :
    codeAny (model P w) A (.call (.builtin "set.__init__") { pos := [.ref S, .ref l] }) (wants Q E) s := by
  have hT : s.TypeIs (.ref S) "set" := ⟨_, hS0, rfl⟩
  have hTl : s.TypeIs (.ref l) "list" := by obtain ⟨o, h1, h2, _⟩ := hl; exact ⟨o, h1, h2⟩
  refine codeAny_call_builtin F.called_set.init.plain F.entry_set_init (check_set_init_1 hT ?_)
  unfold Builtin.«set.__init__»
  have hfr : (SetTable.fresh 0 0 !w.params.followText "set-order").fits (#[] : Array (Int × Value)).size = true := rfl
  refine wpAny_bind (wpAny_ite_true rfl (wpAny_pure ?_))
  dsimp only
  refine wpAny_bind ?_
  refine wpAny_bind ?_
  unfold shownTypeOf
  refine wpAny_bind (wpAny_typeOf hT ?_)
  refine wpAny_ite_false rfl (wpAny_pure ?_)
  refine wpAny_of_eq (a := "set") rfl ?_
  refine wpAny_bind ?_
  refine wpAny_of_eq (a := ()) rfl ?_
  refine wpAny_bind (wpAny_pure ?_)
  unfold setUsed
  refine wpAny_bind (wpAny_bind (wpAny_setState_of hS0 rfl hfr (wpAny_pure ?_)))
  refine wpAny_ite_false rfl ?_
  refine wpAny_bind ?_
  unfold Builtin.Frozenset.updateFrom Builtin.Frozenset.isAnySet
  refine wpAny_bind (wpAny_bind (wpAny_isInstance hTl F.sub_list_set ?_))
  refine (wpAny_isInstance hTl F.sub_list_frozenset ?_ : wpAny (model P w) A.in1 (isInstance (Value.ref l) (Value.type "frozenset")) _ _ _)
  refine wpAny_ite_false rfl ?_
  refine wpAny_bind (wpAny_typeOf hTl ?_)
  refine wpAny_ite_false rfl ?_
  refine wpAny_bind (wpAny_pyIter_list hl ?_)
  have hlS : l ≠ S := fun z => by
    obtain ⟨o, h1, h2, h3, h4⟩ := hl
    rw [z, hS0] at h1
    cases h1
    exact absurd h2 (by simp)
  have hIl : l ≠ s.heap.objs.size := by obtain ⟨o, h1, _⟩ := hl; exact Nat.ne_of_lt (Heap.lt_size h1)
  have hIS : S ≠ s.heap.objs.size := Nat.ne_of_lt (Heap.lt_size hS0)
  have hisz : items.size = ks.length := by have := congrArg List.length hit; simpa using this
  have hnone : s.heap.get? s.heap.objs.size = none := by
    cases e : s.heap.get? s.heap.objs.size with
    | none => rfl
    | some o => exact absurd (Heap.lt_size e) (Nat.lt_irrefl _)
  refine wpAny_bind (wpAny_runValue ?_)
  have kp : ∀ b o, s.heap.get? b = some o → (s.heap.push { cls := Value.type "list_iterator", data := Data.fields #[Value.ref l, Value.int 0 0] }).get? b = some o := fun b o e => Heap.get?_push_of_some _ e
  refine set_updateN (s := { s with heap := s.heap.push { cls := Value.type "list_iterator", data := Data.fields #[Value.ref l, Value.int 0 0] } }) (Walks.toS (Walks.list (A := A.in1.in1) hh s.heap.objs.size l hIl items)) S (by simp [hIS, Ne.symm hlS]) ks hisz hb (fun i v e => ?_) s.heap hk hu items.size 0 rfl (Nat.zero_le _) ?_ (fun b o _ _ e _ => kp b o e) (fun b hb o vs n e => ?_) (fun o vs n e => ?_) ⟨[], #[], 0, _, setN_fresh (kp _ _ hS0), ⟨List.nodup_nil, fun k => by simp, Nat.le_refl _, fun p hp => nomatch hp⟩⟩ fun s' L es ep t hm S3 hg => ?_
  · rw [← Array.getElem?_toList, hit, List.getElem?_map] at e
    obtain ⟨p, e1, e2⟩ := Option.map_eq_some_iff.mp e
    exact ⟨p, e1, e2.symm⟩
  · refine ⟨⟨_, Heap.get?_push_size s.heap rfl, rfl, rfl⟩, hl.push _⟩
  · have : b = s.heap.objs.size := by simpa using hb
    rw [this, hnone] at e; cases e
  · rw [hS0] at e; cases e
    exact fun z => nomatch z
  · refine wpAny_pure (wpAny_pure ?_)
    obtain ⟨h', g', d', tk', os'⟩ := s'
    have e1 := hm.gens
    have e2 := hm.drawn
    have e3 := hm.os
    dsimp only at e1 e2 e3
    subst e1 e2 e3
    refine h h' tk' L es ep t S3 (by rw [← hisz]; exact hg) fun b o hb e => hm.heap b o (fun z => ?_) (kp b o e)
    rcases List.mem_cons.mp z with z | z
    · exact hb z
    · have : b = s.heap.objs.size := by simpa using z
      rw [this, hnone] at e; cases e
theorem call_setN {l : Addr} {items : Array Value} (ks : List (Addr × NestedKey)) (hh : A.handled = none) (hl : s.heap.IsList l items) (hit : items.toList = ks.map fun p => Value.ref p.1) (hk : ∀ p ∈ ks, NIs s.heap p.2 p.1)
    (hb : ks.length ≤ 76) (hu : A.units + 11 < cLine) {Q : Value → Shared → Prop}
    (h : ∀ (h' : Heap) (tk : Nat) (L : List (Addr × NestedKey)) (es : Array (Int × Value)) (ep : Nat) (t : SetTable), SetN P w h' s.heap.objs.size L es ep t → GotN ks ks.length L → (∀ b o, s.heap.get? b = some o → h'.get? b = some o) → Q (.ref s.heap.objs.size) { s with heap := h', toks := tk }) :
    wpAny (model P w) A (call (.type "set") [.ref l]) Q E s := by
  obtain ⟨c, tl, hmro⟩ := F.called_set.mro
  refine wpAny_call (codeAny_of_tree (wpAny_pure ⟨Code.quiet_builtin { pos := Value.type "set" :: [Value.ref l] } (by decide +kernel), codeAny_builtin F.entry_type_call ?_⟩))
  rw [Around.under_plain (weight_type_call_type "set" [Value.ref l] []) rfl]
  unfold Builtin.«type.__call__»
  refine wpAny_ite_false rfl (wpAny_ite_false rfl ?_)
  refine wpAny_bind (wpAny_of_eq (F.typeCall_set_1 (.ref l)) ?_)
  refine wpAny_bind (wpAny_of_eq hmro ?_)
  refine wpAny_ite_false rfl ?_
  refine wpAny_bind (wpAny_of_eq F.called_set.made ?_)
  refine wpAny_bind (wpAny_pure ?_)
  refine wpAny_bind (wpAny_holding (wpAny_call ?_))
  have hnew : (s.heap.push { cls := Value.type "set", data := .set #[] 0 (SetTable.fresh 0 0 !w.params.followText "set-order") }).get? s.heap.objs.size = some { cls := Value.type "set", data := .set #[] 0 (SetTable.fresh 0 0 !w.params.followText "set-order") } := Heap.get?_push_size s.heap rfl
  have kp : ∀ b o, s.heap.get? b = some o → (s.heap.push { cls := Value.type "set", data := .set #[] 0 (SetTable.fresh 0 0 !w.params.followText "set-order") }).get? b = some o := fun b o e => Heap.get?_push_of_some _ e
  refine code_set_led1 (.ref l) ?_
  have hT : ({ s with heap := s.heap.push { cls := Value.type "set", data := .set #[] 0 (SetTable.fresh 0 0 !w.params.followText "set-order") } } : Shared).TypeIs (.ref s.heap.objs.size) "set" := ⟨_, hnew, rfl⟩
  refine wpAny_bind (wpAny_isInstance hT F.called_set.sub (wpAny_ite_false rfl (wpAny_bind (wpAny_holding ?_))))
  unfold callSpecial?
  refine wpAny_bind (wpAny_specialOf hT F.called_set.init.lookup ?_)
  refine wpAny_holding (wpAny_bind (wpAny_of_eq (F.called_set.init.bind _) ?_))
  dsimp only
  refine wpAny_bind (wpAny_call ?_)
  refine codeAny_mono (init_setN (A := A.in1) (E := E) (Q := fun v s2 => v = .none ∧ Q (.ref s.heap.objs.size) s2) (s := { s with heap := s.heap.push { cls := Value.type "set", data := .set #[] 0 (SetTable.fresh 0 0 !w.params.followText "set-order") } }) ks hh (hl.push _) hit (fun p hp => nis_keep (hk p hp) fun b o _ _ e _ => kp b o e) hnew hb (by simp only [Around.in1_units]; omega) fun h' tk L es ep t S3 hg hkeep => ⟨rfl, h h' tk L es ep t S3 hg fun b o e => hkeep b o (Nat.ne_of_lt (Heap.lt_size e)) (kp b o e)⟩) fun r s1 hr => ?_
  match r, hr with
  | .error e, hr => exact hr
  | .ok (.ret v), hr =>
    obtain ⟨rfl, hr⟩ := hr
    refine wpAny_pure ?_
    dsimp only
    exact wpAny_ite_false rfl (wpAny_pure hr)
theorem init_setT {S l : Addr} {items : Array Value} (ks : List (Addr × NestedKey)) (hh : A.handled = none) (hl : s.heap.IsTuple l items) (hit : items.toList = ks.map fun p => Value.ref p.1) (hk : ∀ p ∈ ks, NIs s.heap p.2 p.1) (hS0 : s.heap.get? S = some { cls := .type "set", data := .set #[] 0 (SetTable.fresh 0 0 !w.params.followText "set-order") })
    (hb : ks.length ≤ 76) (hu : A.in1.in1.units + 8 < cLine) {Q : Value → Shared → Prop}
    (h : ∀ (h' : Heap) (tk : Nat) (L : List (Addr × NestedKey)) (es : Array (Int × Value)) (ep : Nat) (t : SetTable), SetN P w h' S L es ep t → GotN ks ks.length L → (∀ b o, b ≠ S → s.heap.get? b = some o → h'.get? b = some o) → Q .none { s with heap := h', toks := tk }) :
    codeAny (model P w) A (.call (.builtin "set.__init__") { pos := [.ref S, .ref l] }) (wants Q E) s := by
  have hT : s.TypeIs (.ref S) "set" := ⟨_, hS0, rfl⟩
  have hTl : s.TypeIs (.ref l) "tuple" := hl.typeIs
  refine codeAny_call_builtin F.called_set.init.plain F.entry_set_init (check_set_init_1 hT ?_)
  unfold Builtin.«set.__init__»
  have hfr : (SetTable.fresh 0 0 !w.params.followText "set-order").fits (#[] : Array (Int × Value)).size = true := rfl
  refine wpAny_bind (wpAny_ite_true rfl (wpAny_pure ?_))
  dsimp only
  refine wpAny_bind ?_
  refine wpAny_bind ?_
  unfold shownTypeOf
  refine wpAny_bind (wpAny_typeOf hT ?_)
  refine wpAny_ite_false rfl (wpAny_pure ?_)
  refine wpAny_of_eq (a := "set") rfl ?_
  refine wpAny_bind ?_
  refine wpAny_of_eq (a := ()) rfl ?_
  refine wpAny_bind (wpAny_pure ?_)
  unfold setUsed
  refine wpAny_bind (wpAny_bind (wpAny_setState_of hS0 rfl hfr (wpAny_pure ?_)))
  refine wpAny_ite_false rfl ?_
  refine wpAny_bind ?_
  unfold Builtin.Frozenset.updateFrom Builtin.Frozenset.isAnySet
  refine wpAny_bind (wpAny_bind (wpAny_isInstance hTl F.sub_tuple_set ?_))
  refine (wpAny_isInstance hTl F.sub_tuple_frozenset ?_ : wpAny (model P w) A.in1 (isInstance (Value.ref l) (Value.type "frozenset")) _ _ _)
  refine wpAny_ite_false rfl ?_
  refine wpAny_bind (wpAny_typeOf hTl ?_)
  refine wpAny_ite_false rfl ?_
  refine wpAny_bind (wpAny_pyIter_tuple hl ?_)
  have hlS : l ≠ S := fun z => by
    obtain ⟨o, h1, h2⟩ := hTl
    rw [z, hS0] at h1
    cases h1
    exact absurd h2 (by simp)
  have hIl : l ≠ s.heap.objs.size := by obtain ⟨o, h1, _⟩ := hTl; exact Nat.ne_of_lt (Heap.lt_size h1)
  have hIS : S ≠ s.heap.objs.size := Nat.ne_of_lt (Heap.lt_size hS0)
  have hisz : items.size = ks.length := by have := congrArg List.length hit; simpa using this
  have hnone : s.heap.get? s.heap.objs.size = none := by
    cases e : s.heap.get? s.heap.objs.size with
    | none => rfl
    | some o => exact absurd (Heap.lt_size e) (Nat.lt_irrefl _)
  refine wpAny_bind (wpAny_runValue ?_)
  have kp : ∀ b o, s.heap.get? b = some o → (s.heap.push { cls := Value.type "tuple_iterator", data := Data.fields #[Value.ref l, Value.int 0 0] }).get? b = some o := fun b o e => Heap.get?_push_of_some _ e
  refine set_updateN (s := { s with heap := s.heap.push { cls := Value.type "tuple_iterator", data := Data.fields #[Value.ref l, Value.int 0 0] } }) (Walks.toS (Walks.tuple (A := A.in1.in1) hh s.heap.objs.size l hIl items)) S (by simp [hIS, Ne.symm hlS]) ks hisz hb (fun i v e => ?_) s.heap hk hu items.size 0 rfl (Nat.zero_le _) ?_ (fun b o _ _ e _ => kp b o e) (fun b hb o vs n e => ?_) (fun o vs n e => ?_) ⟨[], #[], 0, _, setN_fresh (kp _ _ hS0), ⟨List.nodup_nil, fun k => by simp, Nat.le_refl _, fun p hp => nomatch hp⟩⟩ fun s' L es ep t hm S3 hg => ?_
  · rw [← Array.getElem?_toList, hit, List.getElem?_map] at e
    obtain ⟨p, e1, e2⟩ := Option.map_eq_some_iff.mp e
    exact ⟨p, e1, e2.symm⟩
  · refine ⟨⟨_, Heap.get?_push_size s.heap rfl, rfl, rfl⟩, hl.push _⟩
  · have : b = s.heap.objs.size := by simpa using hb
    rw [this, hnone] at e; cases e
  · rw [hS0] at e; cases e
    exact fun z => nomatch z
  · refine wpAny_pure (wpAny_pure ?_)
    obtain ⟨h', g', d', tk', os'⟩ := s'
    have e1 := hm.gens
    have e2 := hm.drawn
    have e3 := hm.os
    dsimp only at e1 e2 e3
    subst e1 e2 e3
    refine h h' tk' L es ep t S3 (by rw [← hisz]; exact hg) fun b o hb e => hm.heap b o (fun z => ?_) (kp b o e)
    rcases List.mem_cons.mp z with z | z
    · exact hb z
    · have : b = s.heap.objs.size := by simpa using z
      rw [this, hnone] at e; cases e
theorem call_setT {l : Addr} {items : Array Value} (ks : List (Addr × NestedKey)) (hh : A.handled = none) (hl : s.heap.IsTuple l items) (hit : items.toList = ks.map fun p => Value.ref p.1) (hk : ∀ p ∈ ks, NIs s.heap p.2 p.1)
    (hb : ks.length ≤ 76) (hu : A.units + 11 < cLine) {Q : Value → Shared → Prop}
    (h : ∀ (h' : Heap) (tk : Nat) (L : List (Addr × NestedKey)) (es : Array (Int × Value)) (ep : Nat) (t : SetTable), SetN P w h' s.heap.objs.size L es ep t → GotN ks ks.length L → (∀ b o, s.heap.get? b = some o → h'.get? b = some o) → Q (.ref s.heap.objs.size) { s with heap := h', toks := tk }) :
    wpAny (model P w) A (call (.type "set") [.ref l]) Q E s := by
  obtain ⟨c, tl, hmro⟩ := F.called_set.mro
  refine wpAny_call (codeAny_of_tree (wpAny_pure ⟨Code.quiet_builtin { pos := Value.type "set" :: [Value.ref l] } (by decide +kernel), codeAny_builtin F.entry_type_call ?_⟩))
  rw [Around.under_plain (weight_type_call_type "set" [Value.ref l] []) rfl]
  unfold Builtin.«type.__call__»
  refine wpAny_ite_false rfl (wpAny_ite_false rfl ?_)
  refine wpAny_bind (wpAny_of_eq (F.typeCall_set_1 (.ref l)) ?_)
  refine wpAny_bind (wpAny_of_eq hmro ?_)
  refine wpAny_ite_false rfl ?_
  refine wpAny_bind (wpAny_of_eq F.called_set.made ?_)
  refine wpAny_bind (wpAny_pure ?_)
  refine wpAny_bind (wpAny_holding (wpAny_call ?_))
  have hnew : (s.heap.push { cls := Value.type "set", data := .set #[] 0 (SetTable.fresh 0 0 !w.params.followText "set-order") }).get? s.heap.objs.size = some { cls := Value.type "set", data := .set #[] 0 (SetTable.fresh 0 0 !w.params.followText "set-order") } := Heap.get?_push_size s.heap rfl
  have kp : ∀ b o, s.heap.get? b = some o → (s.heap.push { cls := Value.type "set", data := .set #[] 0 (SetTable.fresh 0 0 !w.params.followText "set-order") }).get? b = some o := fun b o e => Heap.get?_push_of_some _ e
  refine code_set_led1 (.ref l) ?_
  have hT : ({ s with heap := s.heap.push { cls := Value.type "set", data := .set #[] 0 (SetTable.fresh 0 0 !w.params.followText "set-order") } } : Shared).TypeIs (.ref s.heap.objs.size) "set" := ⟨_, hnew, rfl⟩
  refine wpAny_bind (wpAny_isInstance hT F.called_set.sub (wpAny_ite_false rfl (wpAny_bind (wpAny_holding ?_))))
  unfold callSpecial?
  refine wpAny_bind (wpAny_specialOf hT F.called_set.init.lookup ?_)
  refine wpAny_holding (wpAny_bind (wpAny_of_eq (F.called_set.init.bind _) ?_))
  dsimp only
  refine wpAny_bind (wpAny_call ?_)
  refine codeAny_mono (init_setT (A := A.in1) (E := E) (Q := fun v s2 => v = .none ∧ Q (.ref s.heap.objs.size) s2) (s := { s with heap := s.heap.push { cls := Value.type "set", data := .set #[] 0 (SetTable.fresh 0 0 !w.params.followText "set-order") } }) ks hh (hl.push _) hit (fun p hp => nis_keep (hk p hp) fun b o _ _ e _ => kp b o e) hnew hb (by simp only [Around.in1_units]; omega) fun h' tk L es ep t S3 hg hkeep => ⟨rfl, h h' tk L es ep t S3 hg fun b o e => hkeep b o (Nat.ne_of_lt (Heap.lt_size e)) (kp b o e)⟩) fun r s1 hr => ?_
  match r, hr with
  | .error e, hr => exact hr
  | .ok (.ret v), hr =>
    obtain ⟨rfl, hr⟩ := hr
    refine wpAny_pure ?_
    dsimp only
    exact wpAny_ite_false rfl (wpAny_pure hr)
end
end Jm

set_option Elab.async false
set_option linter.all false
set_option maxRecDepth 100000
set_option maxHeartbeats 2000000
/-! Jm, part A: values as trees over a store, what they stand for in HandS's abstract heap. -/
namespace Jm
open PySem PySem.Spec PyProof.Rows L2

theorem ex_self {A : Type} (a : A) : ∃ k, k = a := ⟨a, rfl⟩
/-- a known value that no reduction goes into -/
noncomputable def hid {A : Type} (a : A) : A := Classical.choose (ex_self a)
theorem hid_eq {A : Type} (a : A) : hid a = a := Classical.choose_spec (ex_self a)
/-! ### values, store, results -/
/-- the built-in types that are spoken of -/
inductive Tn where
  | int | bool | str | tuple | list | dict | none | set | range | xVal | xKey | xIdx | xTyp
  deriving DecidableEq, Inhabited
def Tn.name : Tn → String
  | .int => "int" | .bool => "bool" | .str => "str" | .tuple => "tuple" | .list => "list" | .dict => "dict" | .none => "NoneType" | .set => "set" | .range => "range" | .xVal => "ValueError" | .xKey => "KeyError" | .xIdx => "IndexError" | .xTyp => "TypeError"
/-- ins: an instance of an own class with one field, that is never written again; tup: a tuple; scr: the list that the law is given (nobody writes to it); loc: an object of the store; fn: a def or class of the module, by its number; rng: a range -/
inductive D where
  | non | bl (b : Bool) | int (i : Int) | str (x : Str) | tup (xs : List D) | loc (l : Nat) | fn (i : Nat) | ty (n : Tn) | exc (c : Nat) (fs : List D) | rng (lo hi : Int) | scr (xs : List D) | sett (xs : List D) | ins (c : Nat) (f : Str) (x : D) | exv (c : Nat) (fs : List D)
  deriving Inhabited
inductive O where
  | lst (xs : List D) | dct (kvs : List (Key × D)) | dcN (kvs : List (NestedKey × D)) | dctZ (kvs : List (Key × D)) | dcNZ (kvs : List (NestedKey × D))
  deriving Inhabited
abbrev Sto := List O
inductive Res (A : Type) where
  | ok (a : A) (S : Sto) | exc (c : Nat) (fs : List D) (S : Sto) | bad
abbrev M (A : Type) := Sto → Res A
abbrev En := List (Option D)
abbrev E (A : Type) := En → M A
def rbind {A B : Type} (r : Res A) (f : A → Sto → Res B) : Res B := match r with
  | .ok a S => f a S
  | .exc c fs S => .exc c fs S
  | .bad => .bad
@[simp] theorem rbind_ok {A B : Type} (a : A) (S : Sto) (f : A → Sto → Res B) : rbind (.ok a S) f = f a S := rfl
@[simp] theorem rbind_bad {A B : Type} (f : A → Sto → Res B) : rbind .bad f = .bad := rfl
@[simp] theorem rbind_exc {A B : Type} (c : Nat) (fs : List D) (S : Sto) (f : A → Sto → Res B) : rbind (.exc c fs S) f = .exc c fs S := rfl
theorem rbind_assoc {A B C : Type} (r : Res A) (f : A → Sto → Res B) (g : B → Sto → Res C) : rbind (rbind r f) g = rbind r (fun a S => rbind (f a S) g) := by cases r <;> rfl
def alloc (o : O) : M D := fun S => .ok (.loc S.length) (S ++ [o])

/-! ### what they stand for -/
/-- the one field of an own exception class, by the class's number -/
def fldName (c : Nat) : Str := match c % 4 with
  | 1 => "given"
  | 2 => "index"
  | _ => "reason"
/-- the written part; where the module's defs and classes stand; the script; ex: the exception of the except suite around -/
structure RC where
  K : PySem.W.Frag
  P : Program
  w : World
  fa : Nat → Addr
  g : Option Addr
  ex : Option (Addr × Nat × Option Addr)
/-- the list that the law is given: nothing of the store, or a part of the written text -/
def ScrAt (R : RC) (p : List Addr) (H : Hp) (a : Addr) (xs : List V) : Prop := (R.g = some a ∧ a ∉ p ∧ Rd H a (.lst xs)) ∨ ∃ (o : Obj) (its : Array Value) (n : Nat), R.K.lookup a = some o ∧ o.cls = .type "list" ∧ o.dict = none ∧ o.data = .seq its n ∧ its.size ≤ sizeLine ∧ Vals xs its.toList
theorem ScrAt.sq {R : RC} {p : List Addr} {H : Hp} {a : Addr} {xs : List V} (h : ScrAt R p H a xs) : SqL R.K H a xs := by
  rcases h with ⟨_, _, h⟩ | h
  · exact .inl h
  · exact .inr h
/-- a tuple: nothing of the store, or a part of the written text -/
def TupAt (R : RC) (p : List Addr) (H : Hp) (a : Addr) (xs : List V) : Prop := (a ∉ p ∧ Rd H a (.tup xs)) ∨ ∃ (o : Obj) (its : Array Value) (n : Nat), R.K.lookup a = some o ∧ o.cls = .type "tuple" ∧ o.data = .seq its n ∧ its.size ≤ sizeLine ∧ Vals xs its.toList
theorem TupAt.sq {R : RC} {p : List Addr} {H : Hp} {a : Addr} {xs : List V} (h : TupAt R p H a xs) : SqT R.K H a xs := by
  rcases h with ⟨_, h⟩ | h
  · exact .inl h
  · exact .inr h
/-! the keys that are nested tuples -/
mutual
def keyN : D → Option NestedKey
  | .non => some .none
  | .int i => some (.num i)
  | .str x => some (.text x)
  | .tup ds => (keyNs ds).map .tup
  | _ => none
def keyNs : List D → Option (List NestedKey)
  | [] => some []
  | d :: ds => match keyN d, keyNs ds with
    | some k, some ks => some (k :: ks)
    | _, _ => none
end
/-- the key that a tuple is -/
def tupN (d : D) : Option NestedKey := match d with
  | .tup ds => match keyN (.tup ds) with
    | some k => if k.depth ≤ 8 then some k else none
    | none => none
  | _ => none
def keysOf : List D → Option (List NestedKey)
  | [] => some []
  | d :: ds => match tupN d, keysOf ds with
    | some k, some ks => some (k :: ks)
    | _, _ => none
/-- a set's own object, its elements tuples within tuples -/
def RawS (w : World) (a : Addr) (L : List (Addr × NestedKey)) (h : Heap) : Prop := ∃ (o : Obj) (es : Array (Int × Value)) (ep : Nat) (t : SetTable), h.get? a = some o ∧ o.ExactSet ∧ o.data = .set es ep t ∧
  es.toList = L.map (fun p => (nh w p.2, Value.ref p.1)) ∧ TabOk t (L.map fun p => nh w p.2) ∧ (L.map (·.2)).Nodup ∧ (w.params.followText "set-order" = true ∨ t.led = true) ∧ L.length * 5 < t.mask * 3 ∧ L.length ≤ 76
mutual
inductive RV (R : RC) (p : List Addr) (H : Hp) : D → V → Prop
  | non : RV R p H .non .non
  | bl (b : Bool) : RV R p H (.bl b) (.bl b)
  | int (i : Int) : RV R p H (.int i) (.int i)
  | str (x : Str) : RV R p H (.str x) (.str x)
  | ty (n : Tn) : RV R p H (.ty n) (.ty n.name)
  | tup {a : Addr} {xs : List V} {ds : List D} : TupAt R p H a xs → RVs R p H ds xs → RV R p H (.tup ds) (.ref a)
  | loc {l : Nat} {a : Addr} : p[l]? = some a → RV R p H (.loc l) (.ref a)
  | fn (i : Nat) : RV R p H (.fn i) (.ref (R.fa i))
  | rng {lo hi : Int} {a : Addr} : a ∉ p → H a = some (.rng lo hi) → RV R p H (.rng lo hi) (.ref a)
  | scr {a : Addr} {xs : List V} {ds : List D} : ScrAt R p H a xs → RVs R p H ds xs → RV R p H (.scr ds) (.ref a)
  | sett {a : Addr} {L L0 : List (Addr × NestedKey)} {ds : List D} : a ∉ p → H a = some (.ext (RawS R.w a L)) → RVs R p H ds (L0.map fun x => V.ref x.1) → keysOf ds = some (L0.map (·.2)) → (∀ x ∈ L, x ∈ L0) → (∀ k, k ∈ L.map (·.2) ↔ k ∈ L0.map (·.2)) → RV R p H (.sett ds) (.ref a)
  | ins {a dx : Addr} {c : Nat} {f : Str} {x : D} {v : V} : a ∉ p → H a = some (.ins (R.fa c) dx [(f, v)]) → RV R p H x v → RV R p H (.ins c f x) (.ref a)
  | exv {a dx : Addr} {c : Nat} {x : D} {v : V} : a ∉ p → dx ∉ p → H a = some (exo a (R.fa c) (some dx)) → H dx = some (exd dx [(fldName c, v)]) → RV R p H x v → RV R p H (.exv c [x]) (.ref a)
  | exv0 {a : Addr} {c : Nat} : a ∉ p → H a = some (exo a (R.fa c) none) → RV R p H (.exv c []) (.ref a)
  | exc {c : Nat} {a d : Addr} {x : D} {v : V} : R.ex = some (a, c, some d) → d ∉ p → H d = some (.xd [(fldName c, v)]) → RV R p H x v → RV R p H (.exc c [x]) (.ref a)
  | exc0 {c : Nat} {a : Addr} : R.ex = some (a, c, none) → RV R p H (.exc c []) (.ref a)
inductive RVs (R : RC) (p : List Addr) (H : Hp) : List D → List V → Prop
  | nil : RVs R p H [] []
  | cons {d : D} {v : V} {ds : List D} {vs : List V} : RV R p H d v → RVs R p H ds vs → RVs R p H (d :: ds) (v :: vs)
end
/-- what is not of the store stays -/
structure Tm (p : List Addr) (H : Hp) (p' : List Addr) (H' : Hp) : Prop where
  out : ∀ a u, a ∉ p → H a = some u → a ∉ p' ∧ H' a = some u
  fz : ∀ a o u, H a = some (.frz o u) → H' a = some (.frz o u)
instance {p : List Addr} {H : Hp} {p' : List Addr} {H' : Hp} : CoeFun (Tm p H p' H') (fun _ => ∀ a u, a ∉ p → H a = some u → a ∉ p' ∧ H' a = some u) := ⟨Tm.out⟩
theorem Tm.refl {p : List Addr} {H : Hp} : Tm p H p H := ⟨fun _ _ n e => ⟨n, e⟩, fun _ _ _ e => e⟩
theorem Tm.trans {p p1 p2 : List Addr} {H H1 H2 : Hp} (a : Tm p H p1 H1) (b : Tm p1 H1 p2 H2) : Tm p H p2 H2 := ⟨fun x o n e =>
  let ⟨n1, e1⟩ := a x o n e
  b x o n1 e1, fun x o u e => b.fz x o u (a.fz x o u e)⟩
theorem Tm.new {p : List Addr} {H : Hp} {q : Addr} {o : HO} (n : H q = none) : Tm p H p (upd H q o) := ⟨fun x u np e => ⟨np, by
  rw [upd_ne (ne_of_none e n)]; exact e⟩, fun x o u e => by rw [upd_ne (ne_of_none e n)]; exact e⟩
theorem Tm.all {p : List Addr} {H : Hp} {q : Addr} {o : HO} (n : H q = none) : Tm p H (p ++ [q]) (upd H q o) := ⟨fun x u np e => by
  have ne := ne_of_none e n
  refine ⟨fun z => ?_, by rw [upd_ne ne]; exact e⟩
  rcases List.mem_append.mp z with z | z
  · exact np z
  · exact ne (by simpa using z), fun x o u e => by rw [upd_ne (ne_of_none e n)]; exact e⟩
/-- not frozen -/
def NFz (o : Option HO) : Prop := ∀ o' u, o ≠ some (.frz o' u)
theorem nfz_l {xs : List V} {o : Option HO} (h : o = some (.lst xs)) : NFz o := fun o' u z => by rw [h] at z; cases z
theorem nfz_d {xs : List (Key × V)} {o : Option HO} (h : o = some (.dK xs)) : NFz o := fun o' u z => by rw [h] at z; cases z
theorem nfz_e {φ : Heap → Prop} {o : Option HO} (h : o = some (.ext φ)) : NFz o := fun o' u z => by rw [h] at z; cases z
theorem Tm.mut {p : List Addr} {H : Hp} {q : Addr} {o : HO} (hq : q ∈ p) (hz : NFz (H q)) : Tm p H p (upd H q o) := ⟨fun x v np ex => ⟨np, by
  rw [upd_ne (fun z => np (by rw [z]; exact hq))]; exact ex⟩, fun x o' u e => by rw [upd_ne (fun z => hz o' u (by rw [← z]; exact e))]; exact e⟩
theorem Tm.scr {R : RC} {p p' : List Addr} {H H' : Hp} (t : Tm p H p' H') {a : Addr} {xs : List V} (h : ScrAt R p H a xs) : ScrAt R p' H' a xs := by
  rcases h with ⟨g, hg, h | ⟨o, h⟩⟩ | h
  · exact .inl ⟨g, (t a _ hg h).1, .inl (t a _ hg h).2⟩
  · exact .inl ⟨g, (t a _ hg h).1, .inr ⟨o, (t a _ hg h).2⟩⟩
  · exact .inr h
theorem Tm.tup {R : RC} {p p' : List Addr} {H H' : Hp} (t : Tm p H p' H') {a : Addr} {xs : List V} (h : TupAt R p H a xs) : TupAt R p' H' a xs := by
  rcases h with ⟨hg, h | ⟨o, h⟩⟩ | h
  · exact .inl ⟨(t a _ hg h).1, .inl (t a _ hg h).2⟩
  · exact .inl ⟨(t a _ hg h).1, .inr ⟨o, (t a _ hg h).2⟩⟩
  · exact .inr h
theorem pre_get {p p' : List Addr} (h : p <+: p') {l : Nat} {a : Addr} (e : p[l]? = some a) : p'[l]? = some a := by
  obtain ⟨r, rfl⟩ := h
  rw [List.getElem?_append_left (List.getElem?_eq_some_iff.mp e).1]; exact e
mutual
theorem RV.mono {R : RC} {p p' : List Addr} {H H' : Hp} (hp : p <+: p') (t : Tm p H p' H') : ∀ {d : D} {v : V}, RV R p H d v → RV R p' H' d v
  | _, _, .non => .non
  | _, _, .bl b => .bl b
  | _, _, .int i => .int i
  | _, _, .str x => .str x
  | _, _, .ty n => .ty n
  | _, _, .tup s r => .tup (t.tup s) (RVs.mono hp t r)
  | _, _, .loc e => .loc (pre_get hp e)
  | _, _, .fn i => .fn i
  | _, _, .rng n e => .rng (t _ _ n e).1 (t _ _ n e).2
  | _, _, .scr s r => .scr (t.scr s) (RVs.mono hp t r)
  | _, _, .sett n e r h1 h2 h3 => .sett (t _ _ n e).1 (t _ _ n e).2 (RVs.mono hp t r) h1 h2 h3
  | _, _, .ins n h r => .ins (t _ _ n h).1 (t _ _ n h).2 (RV.mono hp t r)
  | _, _, .exv n m h k r => .exv (t _ _ n h).1 (t _ _ m k).1 (t _ _ n h).2 (t _ _ m k).2 (RV.mono hp t r)
  | _, _, .exv0 n h => .exv0 (t _ _ n h).1 (t _ _ n h).2
  | _, _, .exc e n h r => .exc e (t _ _ n h).1 (t _ _ n h).2 (RV.mono hp t r)
  | _, _, .exc0 e => .exc0 e
theorem RVs.mono {R : RC} {p p' : List Addr} {H H' : Hp} (hp : p <+: p') (t : Tm p H p' H') : ∀ {ds : List D} {vs : List V}, RVs R p H ds vs → RVs R p' H' ds vs
  | _, _, .nil => .nil
  | _, _, .cons r rs => .cons (RV.mono hp t r) (RVs.mono hp t rs)
end
theorem RVs.length {R : RC} {p : List Addr} {H : Hp} : ∀ {ds : List D} {vs : List V}, RVs R p H ds vs → ds.length = vs.length
  | _, _, .nil => rfl
  | _, _, .cons _ rs => congrArg (· + 1) rs.length
theorem RVs.append {R : RC} {p : List Addr} {H : Hp} : ∀ {ds es : List D} {vs us : List V}, RVs R p H ds vs → RVs R p H es us → RVs R p H (ds ++ es) (vs ++ us)
  | _, _, _, _, .nil, s => s
  | _, _, _, _, .cons r rs, s => .cons r (rs.append s)
theorem RVs.get {R : RC} {p : List Addr} {H : Hp} : ∀ {ds : List D} {vs : List V} {i : Nat} {d : D}, RVs R p H ds vs → ds[i]? = some d → ∃ v, vs[i]? = some v ∧ RV R p H d v
  | _, _, _, _, .nil, e => by simp at e
  | _, _, 0, _, .cons r _, e => by simp at e; subst e; exact ⟨_, rfl, r⟩
  | _, _, i + 1, d, .cons _ t, e => by
    obtain ⟨v, h1, h2⟩ := RVs.get (i := i) (d := d) t (by simpa using e)
    exact ⟨v, by simpa using h1, h2⟩
theorem RVs.getv {R : RC} {p : List Addr} {H : Hp} : ∀ {ds : List D} {vs : List V} {i : Nat} {v : V}, RVs R p H ds vs → vs[i]? = some v → ∃ d, ds[i]? = some d ∧ RV R p H d v
  | _, _, _, _, .nil, e => by simp at e
  | _, _, 0, _, .cons r _, e => by simp at e; subst e; exact ⟨_, rfl, r⟩
  | _, _, i + 1, v, .cons _ t, e => by
    obtain ⟨d, h1, h2⟩ := RVs.getv (i := i) (v := v) t (by simpa using e)
    exact ⟨d, by simpa using h1, h2⟩
theorem RVs.set {R : RC} {p : List Addr} {H : Hp} {d : D} {v : V} (r : RV R p H d v) : ∀ {ds : List D} {vs : List V} (i : Nat), RVs R p H ds vs → RVs R p H (ds.set i d) (vs.set i v)
  | _, _, _, .nil => .nil
  | _, _, 0, .cons _ t => .cons r t
  | _, _, i + 1, .cons q t => .cons q (RVs.set r i t)
theorem RVs.take {R : RC} {p : List Addr} {H : Hp} : ∀ {ds : List D} {vs : List V} (n : Nat), RVs R p H ds vs → RVs R p H (ds.take n) (vs.take n)
  | _, _, 0, _ => .nil
  | _, _, _ + 1, .nil => .nil
  | _, _, n + 1, .cons r t => .cons r (RVs.take n t)
theorem RVs.drop {R : RC} {p : List Addr} {H : Hp} : ∀ {ds : List D} {vs : List V} (n : Nat), RVs R p H ds vs → RVs R p H (ds.drop n) (vs.drop n)
  | _, _, 0, r => r
  | _, _, _ + 1, .nil => .nil
  | _, _, n + 1, .cons _ t => RVs.drop n t
theorem RVs.rev {R : RC} {p : List Addr} {H : Hp} : ∀ {ds : List D} {vs : List V}, RVs R p H ds vs → RVs R p H ds.reverse vs.reverse
  | _, _, .nil => .nil
  | _, _, .cons r t => by
    rw [List.reverse_cons, List.reverse_cons]
    exact RVs.append (RVs.rev t) (.cons r .nil)
theorem RVs.dropLast {R : RC} {p : List Addr} {H : Hp} {ds : List D} {vs : List V} (r : RVs R p H ds vs) : RVs R p H ds.dropLast vs.dropLast := by
  rw [List.dropLast_eq_take, List.dropLast_eq_take, r.length]
  exact r.take _
theorem RVs.eraseIdx {R : RC} {p : List Addr} {H : Hp} : ∀ {ds : List D} {vs : List V} (i : Nat), RVs R p H ds vs → RVs R p H (ds.eraseIdx i) (vs.eraseIdx i)
  | _, _, _, .nil => .nil
  | _, _, 0, .cons _ t => t
  | _, _, i + 1, .cons r t => .cons r (RVs.eraseIdx i t)

/-- a dict's own object, its keys nested tuples -/
def RawN (P : Program) (w : World) (a : Addr) (xs : List (NestedKey × Addr × Value)) (h : Heap) : Prop :=
  ∃ o es ep, h.get? a = some o ∧ o.ExactDict ∧ o.data = .dict es ep ∧ es.toList = xs.map (entryOfKey (nestedKind P w)) ∧ (xs.map (·.1)).Nodup
def KeyAt (R : RC) (p : List Addr) (H : Hp) (b : Addr) (k : NestedKey) : Prop := ∃ ds, RV R p H (.tup ds) (.ref b) ∧ keyN (.tup ds) = some k ∧ k.depth ≤ 8
def RN (R : RC) (p : List Addr) (H : Hp) (x : NestedKey × D) (y : NestedKey × Addr × Value) : Prop := x.1 = y.1 ∧ KeyAt R p H y.2.1 y.1 ∧ ∃ v, RV R p H x.2 v ∧ RelV v y.2.2
/-- an object of the store -/
def RO (R : RC) (p : List Addr) (H : Hp) (a : Addr) : O → Prop
  | .lst ds => ∃ vs, H a = some (.lst vs) ∧ RVs R p H ds vs
  | .dct kvs => ∃ us : List (Key × V), H a = some (.dK us) ∧ Paired (fun (x : Key × D) (y : Key × V) => x.1 = y.1 ∧ RV R p H x.2 y.2) kvs us
  | .dctZ kvs => ∃ (o : Obj) (us : List (Key × V)), H a = some (.frz o (.dK us)) ∧ Paired (fun (x : Key × D) (y : Key × V) => x.1 = y.1 ∧ RV R p H x.2 y.2) kvs us
  | .dcNZ kvs => ∃ (o : Obj) (xs : List (NestedKey × Addr × Value)), H a = some (.frz o (.ext (RawN R.P R.w a xs))) ∧ xs.length ≤ sizeLine ∧ (a == sysModules) = false ∧ Paired (RN R p H) kvs xs
  | .dcN kvs => ∃ xs : List (NestedKey × Addr × Value), H a = some (.ext (RawN R.P R.w a xs)) ∧ xs.length ≤ sizeLine ∧ (a == sysModules) = false ∧ Paired (RN R p H) kvs xs
/-- the slots -/
def RE (R : RC) (p : List Addr) (n : En) (s : L2.St) (H : Hp) : Prop := n.length = s.length ∧ ∀ (i : Nat) (d : D), n[i]? = some (some d) → ∃ v, s[i]? = some (some v) ∧ RV R p H d v
theorem RE.mono {R : RC} {p p' : List Addr} {n : En} {s : L2.St} {H H' : Hp} (r : RE R p n s H) (hp : p <+: p') (t : Tm p H p' H') : RE R p' n s H' := ⟨r.1, fun i d e => by
  obtain ⟨v, h1, h2⟩ := r.2 i d e
  exact ⟨v, h1, h2.mono hp t⟩⟩
theorem RE.set {R : RC} {p : List Addr} {n : En} {s : L2.St} {H : Hp} (r : RE R p n s H) {i : Nat} {d : D} {v : V} (h : RV R p H d v) : RE R p (n.set i (some d)) (s.set i (some v)) H := ⟨by simp [r.1], fun j e hj => by
  by_cases hi : i = j
  · subst hi
    by_cases hl : i < n.length
    · rw [List.getElem?_set_self hl] at hj
      cases hj
      exact ⟨v, List.getElem?_set_self (by rw [← r.1]; exact hl), h⟩
    · rw [List.getElem?_eq_none (by simpa using hl)] at hj; cases hj
  · rw [List.getElem?_set_ne hi] at hj ⊢
    exact r.2 j e hj⟩
theorem RE.wipe {R : RC} {p : List Addr} {n : En} {s : L2.St} {H : Hp} (r : RE R p n s H) {i : Nat} : RE R p (n.set i none) (s.set i none) H := ⟨by simp [r.1], fun j e hj => by
  by_cases hi : i = j
  · subst hi
    by_cases hl : i < n.length
    · rw [List.getElem?_set_self hl] at hj; cases hj
    · rw [List.getElem?_eq_none (by simpa using hl)] at hj; cases hj
  · rw [List.getElem?_set_ne hi] at hj ⊢
    exact r.2 j e hj⟩
theorem paired_imp {A B : Type} {F G : A → B → Prop} : ∀ {l : List A} {k : List B}, Paired F l k → (∀ a b, F a b → G a b) → Paired G l k
  | _, _, .nil, _ => .nil
  | _, _, .cons r t, f => .cons (f _ _ r) (paired_imp t f)
theorem KeyAt.mono {R : RC} {p p' : List Addr} {H H' : Hp} {b : Addr} {k : NestedKey} (r : KeyAt R p H b k) (hp : p <+: p') (t : Tm p H p' H') : KeyAt R p' H' b k :=
  let ⟨ds, h1, h2⟩ := r
  ⟨ds, h1.mono hp t, h2⟩
theorem RN.mono {R : RC} {p p' : List Addr} {H H' : Hp} {x : NestedKey × D} {y : NestedKey × Addr × Value} (r : RN R p H x y) (hp : p <+: p') (t : Tm p H p' H') : RN R p' H' x y :=
  let ⟨h1, h2, v, h3, h4⟩ := r
  ⟨h1, h2.mono hp t, v, h3.mono hp t, h4⟩
theorem RO.mono {R : RC} {p p' : List Addr} {H H' : Hp} {a : Addr} {o : O} (r : RO R p H a o) (hp : p <+: p') (t : Tm p H p' H') (e : H' a = H a) : RO R p' H' a o := by
  cases o with
  | lst ds => obtain ⟨vs, h1, h2⟩ := r; exact ⟨vs, e.trans h1, h2.mono hp t⟩
  | dct kvs => obtain ⟨us, h1, h2⟩ := r; exact ⟨us, e.trans h1, paired_imp h2 fun x y z => ⟨z.1, z.2.mono hp t⟩⟩
  | dctZ kvs => obtain ⟨o, us, h1, h2⟩ := r; exact ⟨o, us, e.trans h1, paired_imp h2 fun x y z => ⟨z.1, z.2.mono hp t⟩⟩
  | dcN kvs => obtain ⟨xs, h1, h2, h3, h4⟩ := r; exact ⟨xs, e.trans h1, h2, h3, paired_imp h4 fun x y z => z.mono hp t⟩
  | dcNZ kvs => obtain ⟨o, xs, h1, h2, h3, h4⟩ := r; exact ⟨o, xs, e.trans h1, h2, h3, paired_imp h4 fun x y z => z.mono hp t⟩
theorem RO.there {R : RC} {p : List Addr} {H : Hp} {a : Addr} {o : O} (r : RO R p H a o) : ∃ u, H a = some u := by
  cases o with
  | lst ds => obtain ⟨vs, h1, h2⟩ := r; exact ⟨_, h1⟩
  | dct kvs => obtain ⟨us, h1, h2⟩ := r; exact ⟨_, h1⟩
  | dctZ kvs => obtain ⟨o, us, h1, h2⟩ := r; exact ⟨_, h1⟩
  | dcN kvs => obtain ⟨xs, h1, h2⟩ := r; exact ⟨_, h1⟩
  | dcNZ kvs => obtain ⟨o, xs, h1, h2⟩ := r; exact ⟨_, h1⟩
structure RS (R : RC) (p : List Addr) (S : Sto) (H : Hp) : Prop where
  len : p.length = S.length
  nd : p.Nodup
  gt : ∀ a, R.g = some a → a ∉ p ∧ ∃ u, H a = some u
  at_ : ∀ (l : Nat) (o : O) (a : Addr), S[l]? = some o → p[l]? = some a → RO R p H a o
theorem RS.addr {R : RC} {p : List Addr} {S : Sto} {H : Hp} (r : RS R p S H) {l : Nat} {o : O} (e : S[l]? = some o) : ∃ a, p[l]? = some a ∧ RO R p H a o := by
  have hl : l < p.length := by rw [r.len]; exact (List.getElem?_eq_some_iff.mp e).1
  exact ⟨p[l], by simp [hl], r.at_ l o _ e (by simp [hl])⟩
theorem RS.mem {R : RC} {p : List Addr} {S : Sto} {H : Hp} (r : RS R p S H) {a : Addr} (h : a ∈ p) : ∃ u, H a = some u := by
  obtain ⟨l, hl, e⟩ := List.mem_iff_getElem.mp h
  have hs : l < S.length := by rw [← r.len]; exact hl
  exact (r.at_ l S[l] a (by simp [hs]) (by simp [hl, e])).there
theorem RS.nin {R : RC} {p : List Addr} {S : Sto} {H : Hp} (r : RS R p S H) {a : Addr} (h : H a = none) : a ∉ p := fun z => by
  obtain ⟨u, e⟩ := r.mem z
  rw [h] at e; cases e
theorem RS.ng {R : RC} {p : List Addr} {S : Sto} {H : Hp} (r : RS R p S H) {a : Addr} (h : H a = none) : R.g ≠ some a := fun z => by
  obtain ⟨_, u, e⟩ := r.gt a z
  rw [h] at e; cases e
/-- a heap that has what the store has -/
theorem RS.mono {R : RC} {p : List Addr} {S : Sto} {H H' : Hp} (r : RS R p S H) (t : Tm p H p H') (k : ∀ a u, a ∈ p → H a = some u → H' a = some u) : RS R p S H' :=
  ⟨r.len, r.nd, fun a e => by
    obtain ⟨n, u, h⟩ := r.gt a e
    exact ⟨(t a u n h).1, u, (t a u n h).2⟩, fun l o a e1 e2 => by
    have q := r.at_ l o a e1 e2
    obtain ⟨u, h1⟩ := q.there
    exact q.mono (List.prefix_refl _) t ((k a u (List.mem_of_getElem? e2) h1).trans h1.symm)⟩
theorem RS.newT {R : RC} {p : List Addr} {S : Sto} {H : Hp} (r : RS R p S H) {q : Addr} {o : HO} (n : H q = none) : RS R p S (upd H q o) :=
  r.mono (Tm.new n) fun a u _ e => by rw [upd_ne (ne_of_none e n)]; exact e
theorem pre_snoc {A : Type} (p : List A) (q : A) : p <+: p ++ [q] := ⟨[q], rfl⟩
/-- a tracked object that is none of the store becomes one -/
theorem RS.adopt {R : RC} {p : List Addr} {S : Sto} {H : Hp} (r : RS R p S H) {q : Addr} {o : O} (nq : q ∉ p) (h : RO R (p ++ [q]) H q o) (ng : R.g ≠ some q) (t : ∀ (l : Nat) (o' : O) (a : Addr), S[l]? = some o' → p[l]? = some a → RO R (p ++ [q]) H a o') : RS R (p ++ [q]) (S ++ [o]) H := by
  refine ⟨by simp [r.len], ?_, fun a e => ⟨fun z => ?_, (r.gt a e).2⟩, fun l o' a e1 e2 => ?_⟩
  · rw [List.nodup_append]
    refine ⟨r.nd, by simp, fun a ha b hb => ?_⟩
    have : b = q := by simpa using hb
    subst this
    intro z
    subst z
    exact nq ha
  · rcases List.mem_append.mp z with z | z
    · exact (r.gt a e).1 z
    · have : a = q := by simpa using z
      subst this
      exact ng e
  · by_cases hl : l < S.length
    · rw [List.getElem?_append_left hl] at e1
      rw [List.getElem?_append_left (by rw [r.len]; exact hl)] at e2
      exact t l o' a e1 e2
    · have e : l = S.length := by
        have := (List.getElem?_eq_some_iff.mp e1).1
        simp at this; omega
      subst e
      simp at e1
      subst e1
      have e3 : (p ++ [q])[p.length]? = some q := by simp
      rw [← r.len] at e2
      rw [e3] at e2; cases e2
      exact h
/-- a new object of the store -/
theorem RS.new {R : RC} {p : List Addr} {S : Sto} {H : Hp} (r : RS R p S H) {q : Addr} {o : O} {u : HO} (n : H q = none) (h : RO R (p ++ [q]) (upd H q u) q o) : RS R (p ++ [q]) (S ++ [o]) (upd H q u) := by
  have r1 := r.newT (o := u) n
  refine r1.adopt (r.nin n) h (r.ng n) fun l o' a e1 e2 => ?_
  have ne : a ≠ q := fun z => r.nin n (by rw [← z]; exact List.mem_of_getElem? e2)
  exact (r.at_ l o' a e1 e2).mono (pre_snoc _ _) (Tm.all n) (upd_ne ne)
/-- an object of the store changes -/
theorem RS.put {R : RC} {p : List Addr} {S : Sto} {H : Hp} (r : RS R p S H) {l : Nat} {q : Addr} {o0 o : O} {u : HO} (e0 : S[l]? = some o0) (eq : p[l]? = some q) (hz : NFz (H q)) (h : RO R p (upd H q u) q o) : RS R p (S.set l o) (upd H q u) := by
  refine ⟨by simp [r.len], r.nd, fun a e => ⟨(r.gt a e).1, ?_⟩, fun j o' a e1 e2 => ?_⟩
  · obtain ⟨n, u, h1⟩ := r.gt a e
    exact ⟨u, by rw [upd_ne (fun z => n (by rw [z]; exact List.mem_of_getElem? eq))]; exact h1⟩
  by_cases hj : j = l
  · subst hj
    rw [eq] at e2; cases e2
    rw [List.getElem?_set_self (List.getElem?_eq_some_iff.mp e0).1] at e1
    cases e1
    exact h
  · rw [List.getElem?_set_ne (Ne.symm hj)] at e1
    have na : a ≠ q := fun z => hj (by
      obtain ⟨h1, x1⟩ := List.getElem?_eq_some_iff.mp e2
      obtain ⟨h2, x2⟩ := List.getElem?_eq_some_iff.mp eq
      exact (List.getElem_inj r.nd).mp (x1.trans (z.trans x2.symm)))
    exact (r.at_ j o' a e1 e2).mono (List.prefix_refl _) (Tm.mut (List.mem_of_getElem? eq) hz) (upd_ne na)

/-! ### what is wanted of a result -/
/-- the wish about exceptions, by the classes' numbers and the fields: how it lies in the heap is told by EX -/
def EX (R : RC) (p : List Addr) (H : Hp) (c : Nat) (fs : List D) (cls : Value) (dd : Option Addr) : Prop :=
  cls = .ref (R.fa c) ∧ ((fs = [] ∧ dd = none) ∨ ∃ (d : Addr) (x : D) (v : V), fs = [x] ∧ dd = some d ∧ d ∉ p ∧ H d = some (.xd [(fldName c, v)]) ∧ RV R p H x v)
def Aft {A : Type} (R : RC) (p : List Addr) (H : Hp) (r : Res A) (Q : A → List Addr → Sto → Hp → Prop) (W : Value → Option Addr → Hp → Prop) : Prop := match r with
  | .ok a S' => ∀ p' H', p <+: p' → Tm p H p' H' → RS R p' S' H' → Q a p' S' H'
  | .exc c fs S' => ∀ p' H' cls dd, p <+: p' → Tm p H p' H' → RS R p' S' H' → EX R p' H' c fs cls dd → W cls dd H'
  | .bad => False
theorem Aft.bind {A B : Type} {R : RC} {p : List Addr} {H : Hp} {r : Res A} {f : A → Sto → Res B} {Q : B → List Addr → Sto → Hp → Prop} {W : Value → Option Addr → Hp → Prop} (h : Aft R p H (rbind r f) Q W) :
    Aft R p H r (fun a p' S' H' => Aft R p' H' (f a S') Q W) W := by
  cases r with
  | ok a S' =>
    intro p' H' hp t rs
    have h : Aft R p H (f a S') Q W := h
    show Aft R p' H' (f a S') Q W
    cases e : f a S' with
    | ok b S2 => rw [e] at h; exact fun p2 H2 hp2 t2 rs2 => h p2 H2 (hp.trans hp2) (t.trans t2) rs2
    | exc c fs S2 => rw [e] at h; exact fun p2 H2 cls dd hp2 t2 rs2 x => h p2 H2 cls dd (hp.trans hp2) (t.trans t2) rs2 x
    | bad => rw [e] at h; exact h
  | exc c fs S' => exact h
  | bad => exact h
theorem Aft.later {A : Type} {R : RC} {p p1 : List Addr} {H H1 : Hp} {r : Res A} {Q : A → List Addr → Sto → Hp → Prop} {W : Value → Option Addr → Hp → Prop} (h : Aft R p H r Q W) (hp : p <+: p1) (t : Tm p H p1 H1) : Aft R p1 H1 r Q W := by
  cases r with
  | ok a S' => exact fun p' H' hp' t' rs => h p' H' (hp.trans hp') (t.trans t') rs
  | exc c fs S' => exact fun p' H' cls dd hp' t' rs x => h p' H' cls dd (hp.trans hp') (t.trans t') rs x
  | bad => exact h
theorem Aft.imp {A : Type} {R : RC} {p : List Addr} {H : Hp} {r : Res A} {Q Q' : A → List Addr → Sto → Hp → Prop} {W W' : Value → Option Addr → Hp → Prop} (h : Aft R p H r Q W) (hq : ∀ a p' S' H', p <+: p' → Tm p H p' H' → RS R p' S' H' → Q a p' S' H' → Q' a p' S' H') (hw : ∀ c d H', W c d H' → W' c d H') : Aft R p H r Q' W' := by
  cases r with
  | ok a S' => exact fun p' H' hp t rs => hq _ _ _ _ hp t rs (h p' H' hp t rs)
  | exc c fs S' => exact fun p' H' cls dd hp t rs x => hw _ _ _ (h p' H' cls dd hp t rs x)
  | bad => exact h

/-! ### the judgements' readings -/
/-- an expression's -/
def xE (R : RC) (W : WX) (f : E D) : TE := fun s H Q => ∃ p n S, RS R p S H ∧ RE R p n s H ∧ Aft R p H (f n S) (fun d p' S' H' => ∀ v, RV R p' H' d v → Q v H') (fun c dd H' => W c dd s H')
/-- several expressions' -/
def xA (R : RC) (W : WX) (f : E (List D)) : TA := fun s H Q => ∃ p n S, RS R p S H ∧ RE R p n s H ∧ Aft R p H (f n S) (fun ds p' S' H' => ∀ vs, RVs R p' H' ds vs → Q vs H') (fun c dd H' => W c dd s H')
/-- a test's -/
def xT (R : RC) (W : WX) (f : E Bool) : TT := fun s H Q => ∃ p n S, RS R p S H ∧ RE R p n s H ∧ Aft R p H (f n S) (fun b p' S' H' => Q b H') (fun c dd H' => W c dd s H')
/-- a statement's: it goes on, hands back, breaks, continues, raises -/
inductive Out where
  | nx (n : En) | rt (d : D) | bk (n : En) | ct (n : En) | er (c : Nat) (fs : List D) (n : En)
def Out.post (R : RC) (W : WX) (D0 : Ends) (o : Out) (p : List Addr) (H : Hp) : Prop := match o with
  | .nx n => ∀ s, RE R p n s H → D0.nx s H
  | .rt d => ∀ v, RV R p H d v → D0.rt v H
  | .bk n => ∀ s, RE R p n s H → D0.bk s H
  | .ct n => ∀ s, RE R p n s H → D0.ct s H
  | .er c fs n => ∀ s cls dd, RE R p n s H → EX R p H c fs cls dd → W cls dd s H
def xS (R : RC) (W : WX) (f : E Out) : TS := fun D0 s H => ∃ p n S, RS R p S H ∧ RE R p n s H ∧ Aft R p H (f n S) (fun o p' S' H' => o.post R W D0 p' H') (fun _ _ _ => False)
end Jm

set_option Elab.async false
set_option linter.all false
set_option maxRecDepth 100000
set_option maxHeartbeats 2000000
/-! Jm, part B: expressions: names, constants, displays, operators, truth, calls by values. -/
namespace Jm
open PySem PySem.Spec PyProof.Rows L2

/-! ### combinators -/
def LINE : Nat := 16777216
theorem line_eq : sizeLine = LINE := sizeLine_eq
def lft {A : Type} (o : Option (A × Sto)) : Res A := match o with
  | some (a, S) => .ok a S
  | none => .bad
def eVar (i : Nat) : E D := fun n S => match n[i]? with
  | some (some d) => .ok d S
  | _ => .bad
def eCst (d : D) : E D := fun _ S => .ok d S
def eBnd {A B : Type} (f : E A) (g : A → E B) : E B := fun n S => rbind (f n S) fun a S' => g a n S'
def eAll : List (E D) → E (List D)
  | [] => fun _ S => .ok [] S
  | f :: fs => eBnd f fun d => eBnd (eAll fs) fun ds _ S => .ok (d :: ds) S
/-- a primitive of the values -/
def eOp1 (g : D → Sto → Option (D × Sto)) (f : E D) : E D := eBnd f fun d _ S => lft (g d S)
def eOp2 (g : D → D → Sto → Option (D × Sto)) (f1 f2 : E D) : E D := eBnd f1 fun d1 => eBnd f2 fun d2 _ S => lft (g d1 d2 S)
def eOpN (g : List D → Sto → Option (D × Sto)) (fs : List (E D)) : E D := eBnd (eAll fs) fun ds _ S => lft (g ds S)
def mkTup (ds : List D) (S : Sto) : Option (D × Sto) := if ds.length ≤ LINE then some (.tup ds, S) else none
def mkLst (ds : List D) (S : Sto) : Option (D × Sto) := if ds.length ≤ LINE then some (.loc S.length, S ++ [.lst ds]) else none
def lineOk (n : Nat) : Bool := decide (n ≤ LINE)
def lstAt (S : Sto) (l : Nat) : Option (List D) := match S[l]? with
  | some (.lst ds) => some ds
  | _ => none
def dctAt (S : Sto) (l : Nat) : Option (List (Key × D)) := match S[l]? with
  | some (.dct ds) => some ds
  | some (.dctZ ds) => some ds
  | _ => none

/-! ### the judgements with weaker readings -/
section
variable {X : Cx} {e : Expr} {es : List Expr}
theorem impE {t t' : TE} (h : PE X e t) (m : ∀ s H Q, t' s H Q → t s H Q) : PE X e t' := ⟨fun pins s σ H Q I hw => h.run pins s σ H Q I (m _ _ _ hw)⟩
theorem impT {t t' : TT} (h : PT X e t) (m : ∀ s H Q, t' s H Q → t s H Q) : PT X e t' := ⟨fun pins s σ H Q I hw => h.run pins s σ H Q I (m _ _ _ hw)⟩
theorem impW {t t' : TT} (h : PW X e t) (m : ∀ s H Q, t' s H Q → t s H Q) : PW X e t' := ⟨fun wh pins s σ H Q I hw => h.run wh pins s σ H Q I (m _ _ _ hw)⟩
theorem impA {t t' : TA} (h : PA X es t) (m : ∀ s H Q, t' s H Q → t s H Q) : PA X es t' := ⟨fun pos pins s σ H Q I hw => h.run pos pins s σ H Q I (m _ _ _ hw)⟩
end

/-! ### expressions -/
/-- where the module's defs and classes stand; the script, where it is tracked -/
structure Gl0 where
  fa : Nat → Addr
  g : Option Addr
  ex : Option (Addr × Nat × Option Addr) := none
abbrev rc (X : Cx) (fa : Gl0) : RC := ⟨X.K, X.prog, X.w, fa.fa, fa.g, fa.ex⟩
section
variable {X : Cx} {fa : Gl0} {W : WX} {e a b : Expr} {es : List Expr} {pos : Pos}
/-- one part, then the rest -/
theorem xE_of {R : RC} {B : Type} {f : E D} {g : D → E B} {s : L2.St} {H : Hp} {QB : B → List Addr → Sto → Hp → Prop} {p : List Addr} {n : En} {S : Sto} {Q : VK}
    (rs : RS R p S H) (re : RE R p n s H) (h : Aft R p H (eBnd f g n S) QB (fun c dd H' => W c dd s H'))
    (m : ∀ d p1 S1 H1 v, RS R p1 S1 H1 → RE R p1 n s H1 → p <+: p1 → Tm p H p1 H1 → RV R p1 H1 d v → Aft R p1 H1 (g d n S1) QB (fun c dd H' => W c dd s H') → Q v H1) : xE R W f s H Q :=
  ⟨p, n, S, rs, re, (Aft.bind h).imp (fun d p1 S1 H1 hp t rs1 h1 v rv => m d p1 S1 H1 v rs1 (re.mono hp t) hp t rv h1) fun _ _ _ w => w⟩
theorem xA_of {R : RC} {B : Type} {f : E (List D)} {g : List D → E B} {s : L2.St} {H : Hp} {QB : B → List Addr → Sto → Hp → Prop} {p : List Addr} {n : En} {S : Sto} {Q : List V → Hp → Prop}
    (rs : RS R p S H) (re : RE R p n s H) (h : Aft R p H (eBnd f g n S) QB (fun c dd H' => W c dd s H'))
    (m : ∀ ds p1 S1 H1 vs, RS R p1 S1 H1 → RE R p1 n s H1 → p <+: p1 → Tm p H p1 H1 → RVs R p1 H1 ds vs → Aft R p1 H1 (g ds n S1) QB (fun c dd H' => W c dd s H') → Q vs H1) : xA R W f s H Q :=
  ⟨p, n, S, rs, re, (Aft.bind h).imp (fun ds p1 S1 H1 hp t rs1 h1 vs rv => m ds p1 S1 H1 vs rs1 (re.mono hp t) hp t rv h1) fun _ _ _ w => w⟩
theorem xT_of {R : RC} {B : Type} {f : E Bool} {g : Bool → E B} {s : L2.St} {H : Hp} {QB : B → List Addr → Sto → Hp → Prop} {p : List Addr} {n : En} {S : Sto} {Q : Bool → Hp → Prop}
    (rs : RS R p S H) (re : RE R p n s H) (h : Aft R p H (eBnd f g n S) QB (fun c dd H' => W c dd s H'))
    (m : ∀ b p1 S1 H1, RS R p1 S1 H1 → RE R p1 n s H1 → p <+: p1 → Tm p H p1 H1 → Aft R p1 H1 (g b n S1) QB (fun c dd H' => W c dd s H') → Q b H1) : xT R W f s H Q :=
  ⟨p, n, S, rs, re, (Aft.bind h).imp (fun b p1 S1 H1 hp t rs1 h1 => m b p1 S1 H1 rs1 (re.mono hp t) hp t h1) fun _ _ _ w => w⟩
theorem aft_ok {A : Type} {R : RC} {p : List Addr} {H : Hp} {d : A} {S : Sto} {Q : A → List Addr → Sto → Hp → Prop} {W' : Value → Option Addr → Hp → Prop} (rs : RS R p S H) (h : Aft R p H (.ok d S) Q W') : Q d p S H := h p H (List.prefix_refl _) Tm.refl rs
theorem aft_lft {A : Type} {R : RC} {p : List Addr} {H : Hp} {o : Option (A × Sto)} {Q : A → List Addr → Sto → Hp → Prop} {W' : Value → Option Addr → Hp → Prop} (h : Aft R p H (lft o) Q W') :
    ∃ d S', o = some (d, S') ∧ ∀ p' H', p <+: p' → Tm p H p' H' → RS R p' S' H' → Q d p' S' H' := by
  cases o with
  | none => exact False.elim h
  | some x =>
    obtain ⟨d, S'⟩ := x
    exact ⟨d, S', rfl, h⟩

theorem f_var {i : Nat} {x : Str} (hN : X.N[i]? = some x) (hv : Vis X.env.scope x) (hd : (x == ("__debug__" : Str)) = false) (hcd : (x == ("__classdict__" : Str)) = false) : PE X (.Name x pos) (xE (rc X fa) W (eVar i)) :=
  impE (pe_var hN hv hd hcd) fun s H Q h => by
    obtain ⟨p, n, S, rs, re, h⟩ := h
    unfold eVar at h
    split at h
    · rename_i d e
      obtain ⟨v, h1, h2⟩ := re.2 i d e
      exact ⟨v, h1, aft_ok rs h v h2⟩
    · exact h.elim
theorem f_cst {c : V} {d : D} (h : PE X e (tC c)) (r : ∀ p H, RV (rc X fa) p H d c) : PE X e (xE (rc X fa) W (eCst d)) :=
  impE h fun s H Q ⟨p, n, S, rs, re, h⟩ => aft_ok rs h c (r p H)
theorem f_nil : PA X [] (xA (rc X fa) W (eAll [])) := impA pa_nil fun s H Q ⟨p, n, S, rs, re, h⟩ => aft_ok rs h [] .nil
theorem f_cons {f : E D} {fs : List (E D)} (ha : PE X e (xE (rc X fa) W f)) (hr : PA X es (xA (rc X fa) W (eAll fs))) (hs : starEach (e :: es) X.env = (false, eval e X.env) :: starEach es X.env) :
    PA X (e :: es) (xA (rc X fa) W (eAll (f :: fs))) :=
  impA (pa_cons ha hr hs) fun s H Q ⟨p, n, S, rs, re, h⟩ => xE_of rs re h fun d p1 S1 H1 v rs1 re1 hp t rv h1 =>
    xA_of rs1 re1 h1 fun ds p2 S2 H2 vs rs2 re2 hp2 t2 rvs h2 => aft_ok rs2 h2 _ (.cons (rv.mono hp2 t2) rvs)

/-! ### values' rules -/
def x2 (R : RC) (g : D → D → Sto → Option (D × Sto)) : R2 := fun x y H Q => ∃ p S d1 d2 d S', RS R p S H ∧ RV R p H d1 x ∧ RV R p H d2 y ∧ g d1 d2 S = some (d, S') ∧ ∀ p' H', p <+: p' → Tm p H p' H' → RS R p' S' H' → ∀ v, RV R p' H' d v → Q v H'
def x1 (R : RC) (g : D → Sto → Option (D × Sto)) : V → Hp → VK → Prop := fun x H Q => ∃ p S d1 d S', RS R p S H ∧ RV R p H d1 x ∧ g d1 S = some (d, S') ∧ ∀ p' H', p <+: p' → Tm p H p' H' → RS R p' S' H' → ∀ v, RV R p' H' d v → Q v H'
def xN (R : RC) (g : List D → Sto → Option (D × Sto)) : List V → Hp → VK → Prop := fun xs H Q => ∃ p S ds d S', RS R p S H ∧ RVs R p H ds xs ∧ g ds S = some (d, S') ∧ ∀ p' H', p <+: p' → Tm p H p' H' → RS R p' S' H' → ∀ v, RV R p' H' d v → Q v H'
theorem op2_in {g : D → D → Sto → Option (D × Sto)} {f1 f2 : E D} {s : L2.St} {H : Hp} {Q : VK} (h : xE (rc X fa) W (eOp2 g f1 f2) s H Q) : tOp (x2 (rc X fa) g) (xE (rc X fa) W f1) (xE (rc X fa) W f2) s H Q := by
  obtain ⟨p, n, S, rs, re, h⟩ := h
  exact xE_of rs re h fun d p1 S1 H1 v rs1 re1 hp t rv h1 => xE_of rs1 re1 h1 fun d2 p2 S2 H2 v2 rs2 re2 hp2 t2 rv2 h2 => by
    obtain ⟨d3, S3, e3, h3⟩ := aft_lft h2
    exact ⟨p2, S2, d, d2, d3, S3, rs2, rv.mono hp2 t2, rv2, e3, h3⟩
theorem f_op {op : Operator} {g : D → D → Sto → Option (D × Sto)} {f1 f2 : E D} (ho : OpR X (binaryOp op) (x2 (rc X fa) g)) (ha : PE X a (xE (rc X fa) W f1)) (hb : PE X b (xE (rc X fa) W f2)) : PE X (.BinOp a op b pos) (xE (rc X fa) W (eOp2 g f1 f2)) :=
  impE (pe_op ho ha hb) fun s H Q h => op2_in h
theorem f_cmp {op : CmpOp} {g : D → D → Sto → Option (D × Sto)} {f1 f2 : E D} (ho : OpR X (compareOp op) (x2 (rc X fa) g)) (ha : PE X a (xE (rc X fa) W f1)) (hb : PE X b (xE (rc X fa) W f2)) (hm : behindInMarks op b = false) : PE X (.Compare a [op] [b] pos) (xE (rc X fa) W (eOp2 g f1 f2)) :=
  impE (pe_cmpR ho ha hb hm) fun s H Q h => op2_in h
theorem f_un {op : UnaryOp} {g : D → Sto → Option (D × Sto)} {f1 : E D} (ho : UnR X (unaryOp op) (x1 (rc X fa) g)) (ha : PE X a (xE (rc X fa) W f1)) : PE X (.UnaryOp op a pos) (xE (rc X fa) W (eOp1 g f1)) :=
  impE (pe_un ho ha) fun s H Q ⟨p, n, S, rs, re, h⟩ => xE_of rs re h fun d p1 S1 H1 v rs1 re1 hp t rv h1 => by
    obtain ⟨d3, S3, e3, h3⟩ := aft_lft h1
    exact ⟨p1, S1, d, d3, S3, rs1, rv, e3, h3⟩
theorem opN_in {g : List D → Sto → Option (D × Sto)} {fs : List (E D)} {s : L2.St} {H : Hp} {Q : VK} (h : xE (rc X fa) W (eOpN g fs) s H Q) : xA (rc X fa) W (eAll fs) s H (fun vs H1 => xN (rc X fa) g vs H1 Q) := by
  obtain ⟨p, n, S, rs, re, h⟩ := h
  exact xA_of rs re h fun ds p1 S1 H1 vs rs1 re1 hp t rv h1 => by
    obtain ⟨d3, S3, e3, h3⟩ := aft_lft h1
    exact ⟨p1, S1, ds, d3, S3, rs1, rv, e3, h3⟩
theorem f_bif {x : Str} {id : String} {q : Pos} {g : List D → Sto → Option (D × Sto)} {fs : List (E D)} (hc : CallR X (.builtin id) (xN (rc X fa) g)) (hg : Gl X x) (hm : X.mg x = none) (hv : bootBuiltins x = some (.builtin id)) (ha : PA X (e :: es) (xA (rc X fa) W (eAll fs))) (hn : x ≠ "__name__") (hdb : (x == ("__debug__" : Str)) = false)
    (he : starEach (e :: es) X.env = (false, eval e X.env) :: starEach es X.env) (hpl : (backTo pos (starEach es X.env)).any (·.1) = false) : PE X (.Call (.Name x q) (e :: es) [] pos) (xE (rc X fa) W (eOpN g fs)) :=
  impE (pe_callB hc hg hm hv ha hn hdb he hpl) fun s H Q h => opN_in h
theorem f_bty {x : Str} {T : String} {q : Pos} {g : List D → Sto → Option (D × Sto)} {fs : List (E D)} (hc : CallR X (.type T) (xN (rc X fa) g)) (hg : Gl X x) (hm : X.mg x = none) (hv : bootBuiltins x = some (.type T)) (ha : PA X (e :: es) (xA (rc X fa) W (eAll fs))) (hn : x ≠ "__name__") (hdb : (x == ("__debug__" : Str)) = false)
    (he : starEach (e :: es) X.env = (false, eval e X.env) :: starEach es X.env) (hpl : (backTo pos (starEach es X.env)).any (·.1) = false) : PE X (.Call (.Name x q) (e :: es) [] pos) (xE (rc X fa) W (eOpN g fs)) :=
  impE (pe_callTy hc hg hm hv ha hn hdb he hpl) fun s H Q h => opN_in h
theorem f_tup {fs : List (E D)} {k : Nat} (ha : PA X es (xA (rc X fa) W (eAll fs))) : PE X (.Tuple es k pos) (xE (rc X fa) W (eOpN mkTup fs)) :=
  impE (pe_tup ha) fun s H Q ⟨p, n, S, rs, re, h⟩ => xA_of rs re h fun ds p1 S1 H1 vs rs1 re1 hp t rv h1 => by
    obtain ⟨d3, S3, e3, h3⟩ := aft_lft h1
    unfold mkTup at e3
    split at e3
    · rename_i hl
      cases e3
      refine ⟨by rw [← rv.length, line_eq]; exact hl, fun q hq => ?_⟩
      have T := Tm.new (p := p1) (o := .tup vs) hq
      exact h3 p1 _ (List.prefix_refl _) T (rs1.newT hq) _ (.tup (.inl ⟨RS.nin (by assumption) (by assumption), .inl upd_same⟩) (rv.mono (List.prefix_refl _) T))
    · cases e3
theorem f_lst {fs : List (E D)} (ha : PA X es (xA (rc X fa) W (eAll fs))) : PE X (.List es pos) (xE (rc X fa) W (eOpN mkLst fs)) :=
  impE (pe_lst ha) fun s H Q ⟨p, n, S, rs, re, h⟩ => xA_of rs re h fun ds p1 S1 H1 vs rs1 re1 hp t rv h1 => by
    obtain ⟨d3, S3, e3, h3⟩ := aft_lft h1
    unfold mkLst at e3
    split at e3
    · rename_i hl
      cases e3
      refine ⟨by rw [← rv.length, line_eq]; exact hl, fun q hq => ?_⟩
      have T := Tm.all (p := p1) (o := .lst vs) hq
      refine h3 (p1 ++ [q]) _ (pre_snoc _ _) T (rs1.new hq ⟨vs, upd_same, rv.mono (pre_snoc _ _) T⟩) _ (.loc ?_)
      rw [← rs1.len]; simp
    · cases e3

/-! ### truth -/
def truD (d : D) (S : Sto) : Option Bool := match d with
  | .non => some false
  | .bl b => some b
  | .int i => some (i != 0)
  | .str x => if x.length ≤ LINE then some ((x.length : Int) != 0) else none
  | .tup xs => some (!xs.isEmpty)
  | .scr xs => some (!xs.isEmpty)
  | .loc l => match S[l]? with
    | some (.lst xs) => some (!xs.isEmpty)
    | some (.dct xs) => some (!xs.isEmpty)
    | _ => none
  | _ => none
def tru (d : D) : E Bool := fun _ S => match truD d S with
  | some b => .ok b S
  | none => .bad
theorem RVs.isEmpty {R : RC} {p : List Addr} {H : Hp} {ds : List D} {vs : List V} (r : RVs R p H ds vs) : vs.isEmpty = ds.isEmpty := by cases r <;> rfl
theorem paired_isEmpty {A B : Type} {F : A → B → Prop} {l : List A} {k : List B} (r : Paired F l k) : k.isEmpty = l.isEmpty := by cases r <;> rfl
theorem tru_of {p : List Addr} {S : Sto} {H : Hp} {d : D} {v : V} {k : Bool} (rs : RS (rc X fa) p S H) (rv : RV (rc X fa) p H d v) (h : truD d S = some k) : TruV X.K v H k := by
  cases rv with
  | non => cases h; rfl
  | bl b => cases h; rfl
  | int i => cases h; rfl
  | str x =>
    have h' : (if x.length ≤ LINE then some ((x.length : Int) != 0) else none) = some k := h
    split at h'
    · rename_i hl
      cases h'
      exact ⟨by rw [line_eq]; exact hl, rfl⟩
    · cases h'
  | ty n => cases h
  | tup s r => cases h; exact .inr (.inl ⟨_, s.sq, by rw [r.isEmpty]⟩)
  | scr s r => cases h; exact .inl ⟨_, s.sq, by rw [r.isEmpty]⟩
  | fn i => cases h
  | sett _ _ _ _ _ _ => cases h
  | ins _ _ _ => cases h
  | exv _ _ _ _ _ => cases h
  | exv0 _ _ => cases h
  | rng e => cases h
  | exc _ _ _ _ => cases h
  | exc0 _ => cases h
  | @loc l a e =>
    have h' : (match S[l]? with | some (.lst xs) => some (!xs.isEmpty) | some (.dct xs) => some (!xs.isEmpty) | _ => none) = some k := h
    cases q : S[l]? with
    | none => rw [q] at h'; cases h'
    | some o =>
      have ro := rs.at_ l o a q e
      rw [q] at h'
      cases o with
      | lst ds =>
        obtain ⟨vs, h1, h2⟩ := ro
        cases h'
        exact .inl ⟨vs, .of h1, by rw [h2.isEmpty]⟩
      | dct kvs =>
        obtain ⟨us, h1, h2⟩ := ro
        cases h'
        exact .inr (.inr ⟨us, h1, by rw [paired_isEmpty h2]⟩)
      | dcN kvs => cases h'
      | dcNZ kvs => cases h'
      | dctZ kvs => cases h'
/-- a test by its value's truth -/
def eTru (f : E D) : E Bool := eBnd f tru
theorem tru_in {f : E D} {s : L2.St} {H : Hp} {Q : Bool → Hp → Prop} (h : xT (rc X fa) W (eTru f) s H Q) : xE (rc X fa) W f s H (fun x H' => ∃ k, TruV X.K x H' k ∧ Q k H') := by
  obtain ⟨p, n, S, rs, re, h⟩ := h
  exact xE_of rs re h fun d p1 S1 H1 v rs1 re1 hp t rv h1 => by
    unfold tru at h1
    split at h1
    · rename_i k e
      exact ⟨k, tru_of rs1 rv e, aft_ok rs1 h1⟩
    · exact h1.elim
theorem f_truth {f : E D} (ha : PE X a (xE (rc X fa) W f)) (he : ∀ whole, isTrue a X.env whole = (do let v ← whole; standAt a.pos; holding [v] (truthy v))) : PT X a (xT (rc X fa) W (eTru f)) :=
  impT (pt_truth ha he) fun s H Q h => tru_in h
def eNotT (f : E Bool) : E Bool := eBnd f fun b _ S => .ok (!b) S
def eAndT (f g : E Bool) : E Bool := eBnd f fun b => if b = true then g else fun _ S => .ok false S
def eOrT (f g : E Bool) : E Bool := eBnd f fun b => if b = true then fun _ S => .ok true S else g
theorem f_notT {f : E Bool} (ha : PT X a (xT (rc X fa) W f)) : PT X (.UnaryOp .Not a pos) (xT (rc X fa) W (eNotT f)) :=
  impT (pt_not ha) fun s H Q ⟨p, n, S, rs, re, h⟩ => xT_of rs re h fun b p1 S1 H1 rs1 re1 hp t h1 => aft_ok rs1 h1
theorem f_and1 {f : E Bool} (ha : PT X a (xT (rc X fa) W f)) : PW X (.BoolOp .And [a] pos) (xT (rc X fa) W f) := pw_and1 ha
theorem f_or1 {f : E Bool} (ha : PT X a (xT (rc X fa) W f)) : PW X (.BoolOp .Or [a] pos) (xT (rc X fa) W f) := pw_or1 ha
theorem f_andT {f g : E Bool} (ha : PT X a (xT (rc X fa) W f)) (hb : PW X (.BoolOp .And (b :: es) pos) (xT (rc X fa) W g)) : PW X (.BoolOp .And (a :: b :: es) pos) (xT (rc X fa) W (eAndT f g)) :=
  impW (pw_and ha hb) fun s H Q ⟨p, n, S, rs, re, h⟩ => xT_of rs re h fun c p1 S1 H1 rs1 re1 hp t h1 => by
    cases c with
    | true => exact ⟨p1, n, S1, rs1, re1, h1⟩
    | false => exact aft_ok rs1 h1
theorem f_orT {f g : E Bool} (ha : PT X a (xT (rc X fa) W f)) (hb : PW X (.BoolOp .Or (b :: es) pos) (xT (rc X fa) W g)) : PW X (.BoolOp .Or (a :: b :: es) pos) (xT (rc X fa) W (eOrT f g)) :=
  impW (pw_or ha hb) fun s H Q ⟨p, n, S, rs, re, h⟩ => xT_of rs re h fun c p1 S1 H1 rs1 re1 hp t h1 => by
    cases c with
    | true => exact aft_ok rs1 h1
    | false => exact ⟨p1, n, S1, rs1, re1, h1⟩
/-- values: and, or by truth -/
def eAnd (f g : E D) : E D := eBnd f fun d => eBnd (tru d) fun b => if b = true then g else fun _ S => .ok d S
def eOr (f g : E D) : E D := eBnd f fun d => eBnd (tru d) fun b => if b = true then fun _ S => .ok d S else g
def eNot (f : E D) : E D := eBnd (eTru f) fun b _ S => .ok (.bl (!b)) S
def eIf {A : Type} (t : E Bool) (f g : E A) : E A := eBnd t fun b => if b = true then f else g
theorem tru_ok' {d : D} {n : En} {S : Sto} {B : Type} {f : Bool → Sto → Res B} {R : RC} {p : List Addr} {H : Hp} {Q : B → List Addr → Sto → Hp → Prop} {W' : Value → Option Addr → Hp → Prop} (h : Aft R p H (rbind (tru d n S) f) Q W') : ∃ k, truD d S = some k ∧ Aft R p H (f k S) Q W' := by
  unfold tru at h
  split at h
  · rename_i k e
    exact ⟨k, e, h⟩
  · exact h.elim
theorem f_and {f g : E D} (ha : PE X a (xE (rc X fa) W f)) (hb : PE X (.BoolOp .And (b :: es) pos) (xE (rc X fa) W g)) : PE X (.BoolOp .And (a :: b :: es) pos) (xE (rc X fa) W (eAnd f g)) :=
  impE (pe_andT ha hb) fun s H Q ⟨p, n, S, rs, re, h⟩ => xE_of rs re h fun d p1 S1 H1 v rs1 re1 hp t rv h1 => by
    obtain ⟨k, e, h2⟩ := tru_ok' h1
    refine ⟨k, tru_of rs1 rv e, ?_⟩
    cases k with
    | true => exact ⟨p1, n, S1, rs1, re1, h2⟩
    | false => exact aft_ok rs1 h2 v rv
theorem f_or {f g : E D} (ha : PE X a (xE (rc X fa) W f)) (hb : PE X (.BoolOp .Or (b :: es) pos) (xE (rc X fa) W g)) : PE X (.BoolOp .Or (a :: b :: es) pos) (xE (rc X fa) W (eOr f g)) :=
  impE (pe_orT ha hb) fun s H Q ⟨p, n, S, rs, re, h⟩ => xE_of rs re h fun d p1 S1 H1 v rs1 re1 hp t rv h1 => by
    obtain ⟨k, e, h2⟩ := tru_ok' h1
    refine ⟨k, tru_of rs1 rv e, ?_⟩
    cases k with
    | true => exact aft_ok rs1 h2 v rv
    | false => exact ⟨p1, n, S1, rs1, re1, h2⟩
theorem f_not {f : E D} (ha : PE X a (xE (rc X fa) W f)) : PE X (.UnaryOp .Not a pos) (xE (rc X fa) W (eNot f)) :=
  impE (pe_notT ha) fun s H Q ⟨p, n, S, rs, re, h⟩ => by
    have e : eNot f n S = eBnd f (fun d => eBnd (tru d) fun b _ S => .ok (.bl (!b)) S) n S := rbind_assoc _ _ _
    rw [e] at h
    exact xE_of rs re h fun d p1 S1 H1 v rs1 re1 hp t rv h1 => by
      obtain ⟨k, e, h4⟩ := tru_ok' h1
      exact ⟨k, tru_of rs1 rv e, aft_ok rs1 h4 _ (.bl _)⟩
theorem f_ifE {t : E Bool} {c : Expr} {f g : E D} (hc : PT X c (xT (rc X fa) W t)) (ha : PE X a (xE (rc X fa) W f)) (hb : PE X b (xE (rc X fa) W g)) : PE X (.IfExp c a b pos) (xE (rc X fa) W (eIf t f g)) :=
  impE (pe_ifExp hc ha hb) fun s H Q ⟨p, n, S, rs, re, h⟩ => xT_of rs re h fun c p1 S1 H1 rs1 re1 hp t h1 => by
    cases c with
    | true => exact ⟨p1, n, S1, rs1, re1, h1⟩
    | false => exact ⟨p1, n, S1, rs1, re1, h1⟩
theorem isTrue_if {M : Model} {A : Around} {E0 : Value → Shared → Prop} {c x y : Expr} {env : Env} {wh : Sem Value} {Q : Bool → Shared → Prop} {s : Shared} (h : wpAny M A (isTrue c env (eval c env)) (fun b s1 => wpAny M A (if b = true then isTrue x env (eval x env) else isTrue y env (eval y env)) Q E0 s1) E0 s) :
    wpAny M A (isTrue (.IfExp c x y pos) env wh) Q E0 s := by
  rw [PySem.isTrue]
  exact wpAny_bind h
theorem f_ifT {t : E Bool} {c : Expr} {f g : E Bool} (hc : PT X c (xT (rc X fa) W t)) (ha : PT X a (xT (rc X fa) W f)) (hb : PT X b (xT (rc X fa) W g)) : PT X (.IfExp c a b pos) (xT (rc X fa) W (eIf t f g)) := by
  refine ⟨fun pins s σ H Q I ⟨p, n, S, rs, re, h⟩ => isTrue_if (thn (hc.run pins s σ H (fun b H1 => if b = true then xT (rc X fa) W f σ H1 Q else xT (rc X fa) W g σ H1 Q) I ?_) fun k s1 ⟨H1, I1, q1⟩ => ?_)⟩
  · exact xT_of rs re h fun c p1 S1 H1 rs1 re1 hp t h1 => by
      cases c with
      | true => exact ⟨p1, n, S1, rs1, re1, h1⟩
      | false => exact ⟨p1, n, S1, rs1, re1, h1⟩
  · cases k with
    | true => exact ha.run pins s1 σ H1 Q I1 q1
    | false => exact hb.run pins s1 σ H1 Q I1 q1
/-- a test whose value is a truth value -/
def eBl (f : E D) : E Bool := eBnd f fun d _ S => match d with
  | .bl b => .ok b S
  | _ => .bad
theorem bl_in {f : E D} {s : L2.St} {H : Hp} {Q : Bool → Hp → Prop} (h : xT (rc X fa) W (eBl f) s H Q) : xE (rc X fa) W f s H (fun x H' => ∃ k, x = .bl k ∧ Q k H') := by
  obtain ⟨p, n, S, rs, re, h⟩ := h
  exact xE_of rs re h fun d p1 S1 H1 v rs1 re1 hp t rv h1 => by
    cases rv with
    | bl b => exact ⟨b, rfl, aft_ok rs1 h1⟩
    | _ => exact h1.elim
theorem f_cmpT {op : CmpOp} {g : D → D → Sto → Option (D × Sto)} {f1 f2 : E D} (ho : OpR X (compareOp op) (x2 (rc X fa) g)) (ha : PE X a (xE (rc X fa) W f1)) (hb : PE X b (xE (rc X fa) W f2)) (hm : behindInMarks op b = false) : PT X (.Compare a [op] [b] pos) (xT (rc X fa) W (eBl (eOp2 g f1 f2))) :=
  impT (pt_cmpR ho ha hb hm) fun s H Q h => op2_in (bl_in h)
/-- a op b op' c -/
def eChain (g g' : D → D → Sto → Option (D × Sto)) (f1 f2 f3 : E D) : E D := eBnd f1 fun d1 => eBnd f2 fun d2 => eBnd (fun _ S => lft (g d1 d2 S)) fun k => match k with
  | .bl true => eBnd f3 fun d3 _ S => lft (g' d2 d3 S)
  | .bl false => fun _ S => .ok (.bl false) S
  | _ => fun _ _ => .bad
theorem chain_in {g g' : D → D → Sto → Option (D × Sto)} {f1 f2 f3 : E D} {s : L2.St} {H : Hp} {Q : VK} (h : xE (rc X fa) W (eChain g g' f1 f2 f3) s H Q) :
    tChain (x2 (rc X fa) g) (x2 (rc X fa) g') (xE (rc X fa) W f1) (xE (rc X fa) W f2) (xE (rc X fa) W f3) s H Q := by
  obtain ⟨p, n, S, rs, re, h⟩ := h
  refine xE_of rs re h fun d1 p1 S1 H1 x rs1 re1 hp1 t1 rv1 h1 => xE_of rs1 re1 h1 fun d2 p2 S2 H2 y rs2 re2 hp2 t2 rv2 h2 => ?_
  have h2 : Aft (rc X fa) p2 H2 (rbind (lft (g d1 d2 S2)) _) _ _ := h2
  cases e3 : g d1 d2 S2 with
  | none => rw [e3] at h2; exact h2.elim
  | some r =>
    obtain ⟨k, S3⟩ := r
    rw [e3] at h2
    refine ⟨p2, S2, d1, d2, k, S3, rs2, rv1.mono hp2 t2, rv2, e3, fun p3 H3 hp3 t3 rs3 z rz => ?_⟩
    have hr := re2.mono hp3 t3
    have h4 := Aft.imp (Q' := fun d p' S' H' => ∀ v, RV (rc X fa) p' H' d v → Q v H') (W' := fun c dd H' => W c dd s H') h2 (fun _ _ _ _ _ _ _ q => q) fun _ _ _ w => w
    cases k with
    | bl b =>
      cases rz
      refine ⟨b, rfl, ?_⟩
      cases b with
      | false => exact h4 p3 H3 hp3 t3 rs3 _ (.bl false)
      | true =>
        have h5 : Aft (rc X fa) p2 H2 (eBnd f3 (fun d3 _ S => lft (g' d2 d3 S)) n S3) (fun d p' S' H' => ∀ v, RV (rc X fa) p' H' d v → Q v H') (fun c dd H' => W c dd s H') := h4
        have h6 : Aft (rc X fa) p3 H3 (eBnd f3 (fun d3 _ S => lft (g' d2 d3 S)) n S3) (fun d p' S' H' => ∀ v, RV (rc X fa) p' H' d v → Q v H') (fun c dd H' => W c dd s H') := h5.later hp3 t3
        exact xE_of rs3 hr h6 fun d3 p4 S4 H4 w rs4 re4 hp4 t4 rv4 h7 => by
          obtain ⟨d5, S5, e5, h8⟩ := aft_lft h7
          exact ⟨p4, S4, d2, d3, d5, S5, rs4, (rv2.mono hp3 t3).mono hp4 t4, rv4, e5, h8⟩
    | _ => exact h4.elim
theorem f_chain {op op' : CmpOp} {c : Expr} {g g' : D → D → Sto → Option (D × Sto)} {f1 f2 f3 : E D} (ho : OpR X (compareOp op) (x2 (rc X fa) g)) (ho' : OpR X (compareOp op') (x2 (rc X fa) g')) (ha : PE X a (xE (rc X fa) W f1)) (hb : PE X b (xE (rc X fa) W f2)) (hc : PE X c (xE (rc X fa) W f3))
    (hm : lastMarks [op, op'] [b, c] = false) : PE X (.Compare a [op, op'] [b, c] pos) (xE (rc X fa) W (eChain g g' f1 f2 f3)) := impE (pe_chain ho ho' ha hb hc hm) fun s H Q h => chain_in h
theorem f_chainT {op op' : CmpOp} {c : Expr} {g g' : D → D → Sto → Option (D × Sto)} {f1 f2 f3 : E D} (ho : OpR X (compareOp op) (x2 (rc X fa) g)) (ho' : OpR X (compareOp op') (x2 (rc X fa) g')) (ha : PE X a (xE (rc X fa) W f1)) (hb : PE X b (xE (rc X fa) W f2)) (hc : PE X c (xE (rc X fa) W f3))
    (hm : lastMarks [op, op'] [b, c] = false) : PT X (.Compare a [op, op'] [b, c] pos) (xT (rc X fa) W (eBl (eChain g g' f1 f2 f3))) := impT (pt_chain ho ho' ha hb hc hm) fun s H Q h => chain_in (bl_in h)
end
end Jm

set_option Elab.async false
set_option linter.all false
set_option maxRecDepth 100000
set_option maxHeartbeats 2000000
/-! Jm, part C: primitives of values: operators. -/
namespace Jm
open PySem PySem.Spec PyProof.Rows L2
section
variable {X : Cx} {fa : Gl0}
theorem RS.list {R : RC} {p : List Addr} {S : Sto} {H : Hp} (rs : RS R p S H) {l : Nat} {a : Addr} {ds : List D} (e : p[l]? = some a) (h : lstAt S l = some ds) : ∃ vs, H a = some (.lst vs) ∧ RVs R p H ds vs := by
  unfold lstAt at h
  split at h
  · rename_i q
    cases h
    exact rs.at_ l _ a q e
  · cases h
theorem lstAt_of {S : Sto} {l : Nat} {ds : List D} (h : lstAt S l = some ds) : S[l]? = some (.lst ds) := by
  unfold lstAt at h
  split at h
  · rename_i q
    cases h
    exact q
  · cases h
/-- a new list -/
theorem new_list {R : RC} {p : List Addr} {S S' : Sto} {H : Hp} {ds : List D} {vs : List V} {d : D} {Q : VK} (rs : RS R p S H) (rv : RVs R p H ds vs) (e : mkLst ds S = some (d, S')) (q : ∀ p' H', p <+: p' → Tm p H p' H' → RS R p' S' H' → ∀ v, RV R p' H' d v → Q v H') :
    vs.length ≤ sizeLine ∧ ∀ a, H a = none → Q (.ref a) (upd H a (.lst vs)) := by
  unfold mkLst at e
  split at e
  · rename_i hl
    cases e
    refine ⟨by rw [← rv.length, line_eq]; exact hl, fun a ha => ?_⟩
    have T := Tm.all (p := p) (o := .lst vs) ha
    refine q (p ++ [a]) _ (pre_snoc _ _) T (rs.new ha ⟨vs, upd_same, rv.mono (pre_snoc _ _) T⟩) _ (.loc ?_)
    rw [← rs.len]; simp
  · cases e
theorem new_tup {R : RC} {p : List Addr} {S S' : Sto} {H : Hp} {ds : List D} {vs : List V} {d : D} {Q : VK} (rs : RS R p S H) (rv : RVs R p H ds vs) (e : mkTup ds S = some (d, S')) (q : ∀ p' H', p <+: p' → Tm p H p' H' → RS R p' S' H' → ∀ v, RV R p' H' d v → Q v H') :
    vs.length ≤ sizeLine ∧ ∀ a, H a = none → Q (.ref a) (upd H a (.tup vs)) := by
  unfold mkTup at e
  split at e
  · rename_i hl
    cases e
    refine ⟨by rw [← rv.length, line_eq]; exact hl, fun a ha => ?_⟩
    have T := Tm.new (p := p) (o := .tup vs) ha
    exact q p _ (List.prefix_refl _) T (rs.newT ha) _ (.tup (.inl ⟨RS.nin (by assumption) (by assumption), .inl upd_same⟩) (rv.mono (List.prefix_refl _) T))
  · cases e
theorem at_once {R : RC} {p : List Addr} {S : Sto} {H : Hp} {d : D} {v : V} {Q : VK} (rs : RS R p S H) (q : ∀ p' H', p <+: p' → Tm p H p' H' → RS R p' S H' → ∀ v, RV R p' H' d v → Q v H') (rv : RV R p H d v) : Q v H := q p H (List.prefix_refl _) Tm.refl rs v rv

/-! ### + -/
def addD (x y : D) (S : Sto) : Option (D × Sto) := match x, y with
  | .int a, .int b => some (.int (a + b), S)
  | .int a, .bl b => some (.int (a + b2i b), S)
  | .str a, .str b => if a.length + b.length ≤ LINE then some (.str (a ++ b), S) else none
  | .tup a, .tup b => mkTup (a ++ b) S
  | .loc a, .loc b => match lstAt S a, lstAt S b with
    | some xs, some ys => mkLst (xs ++ ys) S
    | _, _ => none
  | _, _ => none
theorem op_addD : OpR X (binaryOp .Add) (x2 (rc X fa) addD) := by
  intro pins s σ H x y v u Q I rx ry ⟨p, S, d1, d2, d, S', rs, r1, r2, e, q⟩
  cases r1 with
  | int i =>
    cases r2 with
    | int j => cases e; exact op_add pins s σ H _ _ v u Q I rx ry ⟨i, j, rfl, rfl, at_once rs q (.int _)⟩
    | bl b => cases e; exact op_add_ib pins s σ H _ _ v u Q I rx ry ⟨i, b, rfl, rfl, at_once rs q (.int _)⟩
    | _ => exact nomatch e
  | str a =>
    cases r2 with
    | str b =>
      have e' : (if a.length + b.length ≤ LINE then some (D.str (a ++ b), S) else none) = some (d, S') := e
      split at e'
      · rename_i hl
        cases e'
        exact op_add_str pins s σ H _ _ v u Q I rx ry ⟨a, b, rfl, rfl, by rw [line_eq]; exact hl, at_once rs q (.str _)⟩
      · cases e'
    | _ => exact nomatch e
  | @tup a xs ds1 s1 v1 =>
    cases r2 with
    | @tup b ys ds2 s2 v2 =>
      have e' : mkTup (ds1 ++ ds2) S = some (d, S') := e
      obtain ⟨hz, hq⟩ := new_tup rs (v1.append v2) e' q
      rw [List.length_append] at hz
      by_cases hx : xs = []
      · subst hx
        cases rx
        cases ry
        obtain ⟨its, w1, p1, _⟩ := I.tuple s1.sq
        obtain ⟨its2, w2, p2, _⟩ := I.tuple s2.sq
        cases w1
        cases v1
        obtain ⟨⟨cls, dd, data, sl⟩, ho, hc, n, hd⟩ := id p1
        obtain ⟨⟨cls2, dd2, data2, sl2⟩, ho2, hc2, n2, hd2⟩ := id p2
        simp only at hc hd hc2 hd2
        subst hc hd hc2 hd2
        have e2 : (d, S') = (D.tup ds2, S) := by
          unfold mkTup at e'
          split at e'
          · cases e'; rfl
          · cases e'
        cases e2
        exact concat_meets ⟨_, ho, rfl⟩ ⟨_, ho2, rfl⟩ noFill_tuple_add seq_tuple_add PySem.F.slot_tuple_add PySem.F.entry_tuple_add (PySem.F.args_tuple_add_2 _ _)
          (tuple_addW0 a b _ _ n n2 dd dd2 sl sl2 (by simp)) ⟨ho, ho2, ⟨.ref b, H, I.tok _, rfl, at_once rs q (.tup s2 v2)⟩⟩
      · refine op_catT pins s σ H _ _ v u Q I rx ry ⟨a, b, xs, ys, rfl, rfl, s1.sq, s2.sq, hx, hz, fun hy => ?_, fun _ a ha => hq a ha⟩
        subst hy
        cases v2
        rw [List.append_nil] at e'
        have e2 : (d, S') = (D.tup ds1, S) := by
          unfold mkTup at e'
          split at e'
          · cases e'; rfl
          · cases e'
        cases e2
        exact at_once rs q (.tup s1 v1)
    | _ => exact nomatch e
  | @loc l1 a1 h1 =>
    cases r2 with
    | @loc l2 a2 h2 =>
      have e' : (match lstAt S l1, lstAt S l2 with | some xs, some ys => mkLst (xs ++ ys) S | _, _ => none) = some (d, S') := e
      split at e'
      · rename_i xs ys q1 q2
        obtain ⟨vs1, g1, w1⟩ := rs.list h1 q1
        obtain ⟨vs2, g2, w2⟩ := rs.list h2 q2
        obtain ⟨hz, hq⟩ := new_list rs (w1.append w2) e' q
        rw [List.length_append] at hz
        exact op_cat pins s σ H _ _ v u Q I rx ry ⟨a1, a2, vs1, vs2, rfl, rfl, g1, g2, hz, hq⟩
      · cases e'
    | _ => exact nomatch e
  | _ => exact nomatch e

/-! ### the other operators of ints -/
def subD (x y : D) (S : Sto) : Option (D × Sto) := match x, y with
  | .int a, .int b => some (.int (a - b), S)
  | _, _ => none
theorem op_subD : OpR X (binaryOp .Sub) (x2 (rc X fa) subD) := by
  intro pins s σ H x y v u Q I rx ry ⟨p, S, d1, d2, d, S', rs, r1, r2, e, q⟩
  cases r1 with
  | int i =>
    cases r2 with
    | int j => cases e; exact op_sub pins s σ H _ _ v u Q I rx ry ⟨i, j, rfl, rfl, at_once rs q (.int _)⟩
    | _ => exact nomatch e
  | _ => exact nomatch e
/-- a product that is not too long -/
def mulOk (a b : Int) : Bool := decide (a.natAbs < 2 ^ 64) || decide (b.natAbs < 2 ^ 64) || decide (a.natAbs.log2 + b.natAbs.log2 < 1000000)
def mulD (x y : D) (S : Sto) : Option (D × Sto) := match x, y with
  | .int a, .int b => if mulOk a b = true then some (.int (a * b), S) else none
  | .loc a, .int k => match lstAt S a with
    | some xs => if -(2 ^ 63) ≤ k ∧ k < 2 ^ 63 ∧ xs.length * k.toNat ≤ LINE then mkLst (List.replicate k.toNat xs).flatten S else none
    | none => none
  | _, _ => none
theorem RVs.rep {R : RC} {p : List Addr} {H : Hp} {ds : List D} {vs : List V} (r : RVs R p H ds vs) : ∀ k : Nat, RVs R p H (List.replicate k ds).flatten (List.replicate k vs).flatten
  | 0 => .nil
  | k + 1 => by
    rw [List.replicate_succ, List.replicate_succ, List.flatten_cons, List.flatten_cons]
    exact r.append (r.rep k)
theorem op_mulD : OpR X (binaryOp .Mult) (x2 (rc X fa) mulD) := by
  intro pins s σ H x y v u Q I rx ry ⟨p, S, d1, d2, d, S', rs, r1, r2, e, q⟩
  cases r1 with
  | int i =>
    cases r2 with
    | int j =>
      have e' : (if mulOk i j = true then some (D.int (i * j), S) else none) = some (d, S') := e
      split at e'
      · rename_i h
        cases e'
        unfold mulOk at h
        simp only [Bool.or_eq_true, decide_eq_true_eq] at h
        rcases h with (h | h) | h
        · exact op_mul pins s σ H _ _ v u Q I rx ry ⟨i, j, rfl, rfl, .inl (by omega), at_once rs q (.int _)⟩
        · exact op_mul pins s σ H _ _ v u Q I rx ry ⟨i, j, rfl, rfl, .inr (by omega), at_once rs q (.int _)⟩
        · exact op_mulW pins s σ H _ _ v u Q I rx ry ⟨i, j, rfl, rfl, h, at_once rs q (.int _)⟩
      · cases e'
    | _ => exact nomatch e
  | @loc l a h =>
    cases r2 with
    | int k =>
      have e' : (match lstAt S l with | some xs => if -(2 ^ 63) ≤ k ∧ k < 2 ^ 63 ∧ xs.length * k.toNat ≤ LINE then mkLst (List.replicate k.toNat xs).flatten S else none | none => none) = some (d, S') := e
      split at e'
      · rename_i xs q1
        split at e'
        · rename_i hk
          obtain ⟨vs1, g1, w1⟩ := rs.list h q1
          obtain ⟨hz, hq⟩ := new_list rs (w1.rep k.toNat) e' q
          exact op_rep pins s σ H _ _ v u Q I rx ry ⟨a, k, vs1, rfl, rfl, g1, hk.1, hk.2.1, by rw [← w1.length, line_eq]; exact hk.2.2, hq⟩
        · cases e'
      · cases e'
    | _ => exact nomatch e
  | _ => exact nomatch e
/-- // and %: by a divisor above 0 -/
def divOk (b : Int) : Bool := decide (0 < b) && decide (b.natAbs < 2 ^ 8000)
def fdivD (x y : D) (S : Sto) : Option (D × Sto) := match x, y with
  | .int a, .int b => if divOk b = true then some (.int (a / b), S) else none
  | _, _ => none
theorem op_fdivD : OpR X (binaryOp .FloorDiv) (x2 (rc X fa) fdivD) := by
  intro pins s σ H x y v u Q I rx ry ⟨p, S, d1, d2, d, S', rs, r1, r2, e, q⟩
  cases r1 with
  | int i =>
    cases r2 with
    | int j =>
      have e' : (if divOk j = true then some (D.int (i / j), S) else none) = some (d, S') := e
      split at e'
      · rename_i h
        cases e'
        unfold divOk at h
        simp only [Bool.and_eq_true, decide_eq_true_eq] at h
        exact op_fdivW pins s σ H _ _ v u Q I rx ry ⟨i, j, rfl, rfl, wide_div h.1 h.2 (by decide) (by decide), at_once rs q (.int _)⟩
      · cases e'
    | _ => exact nomatch e
  | _ => exact nomatch e
def modD (x y : D) (S : Sto) : Option (D × Sto) := match x, y with
  | .int a, .int b => if 0 < b then some (.int (a % b), S) else none
  | _, _ => none
theorem op_modD : OpR X (binaryOp .Mod) (x2 (rc X fa) modD) := by
  intro pins s σ H x y v u Q I rx ry ⟨p, S, d1, d2, d, S', rs, r1, r2, e, q⟩
  cases r1 with
  | int i =>
    cases r2 with
    | int j =>
      have e' : (if 0 < j then some (D.int (i % j), S) else none) = some (d, S') := e
      split at e'
      · rename_i h
        cases e'
        exact op_mod pins s σ H _ _ v u Q I rx ry ⟨i, j, rfl, rfl, h, at_once rs q (.int _)⟩
      · cases e'
    | _ => exact nomatch e
  | _ => exact nomatch e
def powD (x y : D) (S : Sto) : Option (D × Sto) := match x, y with
  | .int a, .int b => if 0 ≤ b ∧ b ≤ 1000000 ∧ a.natAbs < 2 ^ 64 then some (.int (a ^ b.toNat), S) else none
  | _, _ => none
theorem op_powD : OpR X (binaryOp .Pow) (x2 (rc X fa) powD) := by
  intro pins s σ H x y v u Q I rx ry ⟨p, S, d1, d2, d, S', rs, r1, r2, e, q⟩
  cases r1 with
  | int i =>
    cases r2 with
    | int j =>
      have e' : (if 0 ≤ j ∧ j ≤ 1000000 ∧ i.natAbs < 2 ^ 64 then some (D.int (i ^ j.toNat), S) else none) = some (d, S') := e
      split at e'
      · rename_i h
        cases e'
        exact op_pow pins s σ H _ _ v u Q I rx ry ⟨i, j, rfl, rfl, h, at_once rs q (.int _)⟩
      · cases e'
    | _ => exact nomatch e
  | _ => exact nomatch e
def xorD (x y : D) (S : Sto) : Option (D × Sto) := match x, y with
  | .int a, .int b => some (.int (Builtin.bitXor a b), S)
  | _, _ => none
theorem op_xorD : OpR X (binaryOp .BitXor) (x2 (rc X fa) xorD) := by
  intro pins s σ H x y v u Q I rx ry ⟨p, S, d1, d2, d, S', rs, r1, r2, e, q⟩
  cases r1 with
  | int i =>
    cases r2 with
    | int j => cases e; exact op_xor pins s σ H _ _ v u Q I rx ry ⟨i, j, rfl, rfl, at_once rs q (.int _)⟩
    | _ => exact nomatch e
  | _ => exact nomatch e
def negD (x : D) (S : Sto) : Option (D × Sto) := match x with
  | .int a => some (.int (-a), S)
  | _ => none
theorem un_negD : UnR X (unaryOp .USub) (x1 (rc X fa) negD) := by
  intro pins s σ H x v Q I rx ⟨p, S, d1, d, S', rs, r1, e, q⟩
  cases r1 with
  | int i => cases e; exact un_neg pins s σ H _ v Q I rx ⟨i, rfl, at_once rs q (.int _)⟩
  | _ => exact nomatch e
/-- which operators there are -/
def binD : Operator → Option (D → D → Sto → Option (D × Sto))
  | .Add => some addD
  | .Sub => some subD
  | .Mult => some mulD
  | .FloorDiv => some fdivD
  | .Mod => some modD
  | .Pow => some powD
  | .BitXor => some xorD
  | _ => none
theorem op_binD {op : Operator} {g : D → D → Sto → Option (D × Sto)} (h : binD op = some g) : OpR X (binaryOp op) (x2 (rc X fa) g) := by
  cases op <;> cases h
  · exact op_addD
  · exact op_subD
  · exact op_mulD
  · exact op_modD
  · exact op_powD
  · exact op_xorD
  · exact op_fdivD
end
end Jm

set_option Elab.async false
set_option linter.all false
set_option maxRecDepth 100000
set_option maxHeartbeats 4000000
/-! Jm, part Nk: dicts whose keys are tuples within tuples. -/
namespace Jm
open PySem PySem.Spec PyProof.Rows L2
def nGet (kvs : List (NestedKey × D)) (k : NestedKey) : Option D := (kvs.find? fun kv => decide (kv.1 = k)).map (·.2)
def nPut (kvs : List (NestedKey × D)) (k : NestedKey) (v : D) : List (NestedKey × D) := if (nGet kvs k).isSome then kvs.map (fun kv => if kv.1 = k then (kv.1, v) else kv) else kvs ++ [(k, v)]
/-- what may be read as a dict with such keys: the empty one is of any kind -/
def asN (o : O) : Option (List (NestedKey × D)) := match o with
  | .dcN kvs => some kvs
  | .dct [] => some []
  | _ => none
/-- the same, also while it is walked -/
def asR (o : O) : Option (List (NestedKey × D)) := match o with
  | .dcN kvs => some kvs
  | .dct [] => some []
  | .dcNZ kvs => some kvs
  | _ => none
theorem asR_of {o : O} {kvs : List (NestedKey × D)} (h : asN o = some kvs) : asR o = some kvs := by
  unfold asN at h
  split at h
  · exact h
  · exact h
  · cases h
/-! a key as a value -/
mutual
def unN : NestedKey → D
  | .none => .non
  | .num i => .int i
  | .text x => .str x
  | .tup ks => .tup (unNs ks)
def unNs : List NestedKey → List D
  | [] => []
  | k :: ks => unN k :: unNs ks
end
mutual
theorem unN_of : ∀ {d : D} {k : NestedKey}, keyN d = some k → unN k = d
  | .non, _, e => by cases e; rfl
  | .int i, _, e => by cases e; rfl
  | .str x, _, e => by cases e; rfl
  | .tup ds, k, e => by
    have e' : (keyNs ds).map NestedKey.tup = some k := e
    obtain ⟨ks, e1, e2⟩ := Option.map_eq_some_iff.mp e'
    subst e2
    show D.tup (unNs ks) = D.tup ds
    rw [unNs_of e1]
  | .bl _, _, e => nomatch e
  | .scr _, _, e => nomatch e
  | .sett _, _, e => nomatch e
  | .ins _ _ _, _, e => nomatch e
  | .exv _ _, _, e => nomatch e
  | .loc _, _, e => nomatch e
  | .fn _, _, e => nomatch e
  | .ty _, _, e => nomatch e
  | .exc _ _, _, e => nomatch e
  | .rng _ _, _, e => nomatch e
theorem unNs_of : ∀ {ds : List D} {ks : List NestedKey}, keyNs ds = some ks → unNs ks = ds
  | [], _, e => by cases e; rfl
  | d :: ds, ks, e => by
    have e' : (match keyN d, keyNs ds with | some k, some ks => some (k :: ks) | _, _ => none) = some ks := e
    split at e'
    · rename_i k ks' e1 e2
      cases e'
      show unN k :: unNs ks' = d :: ds
      rw [unN_of e1, unNs_of e2]
    · cases e'
end
theorem tupN_some {d : D} {k : NestedKey} (h : tupN d = some k) : ∃ ds, d = .tup ds ∧ keyN (.tup ds) = some k ∧ k.depth ≤ 8 := by
  unfold tupN at h
  split at h
  · rename_i ds
    split at h
    · rename_i k' e
      split at h
      · cases h; exact ⟨ds, rfl, e, by assumption⟩
      · cases h
    · cases h
  · cases h
section
variable {X : Cx} {fa : Gl0} {pins : List (Addr × Obj)} {σ : L2.St} {H : Hp} {s : Shared} {p : List Addr}
mutual
theorem nested_of (I : Inv X pins σ H s) : ∀ {d : D} {v : V} {k : NestedKey} {u : Value}, RV (rc X fa) p H d v → keyN d = some k → RelV v u → NestedIs s.heap k u
  | _, _, _, _, .non, e, r => by cases e; cases r; exact .none
  | _, _, _, _, .int i, e, r => by cases e; obtain ⟨t, rfl⟩ := r; exact .int _ _
  | _, _, _, _, .str i, e, r => by cases e; obtain ⟨t, rfl⟩ := r; exact .text _ _
  | _, _, _, _, @RV.tup _ _ _ a xs ds s1 v1, e, r => by
    cases r
    have e' : (keyNs ds).map NestedKey.tup = some _ := e
    obtain ⟨ks, e1, e2⟩ := Option.map_eq_some_iff.mp e'
    obtain ⟨its, r, ⟨o, h1, h2, n, h3⟩, hz⟩ := I.tuple s1.sq
    subst e2
    exact .tup h1 h2 h3 (by simpa using nested_all I v1 e1 r)
  | _, _, _, _, .bl _, e, _ => nomatch e
  | _, _, _, _, .scr _ _, e, _ => nomatch e
  | _, _, _, _, .sett _ _ _ _ _ _, e, _ => nomatch e
  | _, _, _, _, .ins _ _ _, e, _ => nomatch e
  | _, _, _, _, .exv _ _ _ _ _, e, _ => nomatch e
  | _, _, _, _, .exv0 _ _, e, _ => nomatch e
  | _, _, _, _, .loc _, e, _ => nomatch e
theorem nested_all (I : Inv X pins σ H s) : ∀ {ds : List D} {vs : List V} {ks : List NestedKey} {us : List Value}, RVs (rc X fa) p H ds vs → keyNs ds = some ks → Vals vs us → NestedAll s.heap ks us
  | _, _, _, _, .nil, e, .nil => by cases e; exact .nil
  | _, _, _, _, @RVs.cons _ _ _ d v ds vs r rs, e, .cons q qs => by
    have e' : (match keyN d, keyNs ds with | some k, some ks => some (k :: ks) | _, _ => none) = some _ := e
    split at e'
    · rename_i k ks e1 e2
      cases e'
      exact .cons (nested_of I r e1 q) (nested_all I rs e2 qs)
    · cases e'
end
theorem keys_are (I : Inv X pins σ H s) : ∀ {kvs : List (NestedKey × D)} {xs : List (NestedKey × Addr × Value)}, Paired (RN (rc X fa) p H) kvs xs → ∀ x ∈ xs, (nestedKind X.prog X.w).is s.heap x.1 x.2.1
  | _, _, .nil, x, hx => nomatch hx
  | _, _, .cons (b := y) (l₂ := l) h t, x, hx => by
    rcases List.mem_cons.mp hx with e | e
    · subst e
      obtain ⟨h1, ⟨ds, h2, h3, h4⟩, _⟩ := h
      exact ⟨nested_of I h2 h3 rfl, h4⟩
    · exact keys_are I t x e
theorem dict_n {a : Addr} {o : O} {kvs : List (NestedKey × D)} (I : Inv X pins σ H s) (ro : RO (rc X fa) p H a o) (eo : asN o = some kvs) :
    ∃ xs, s.heap.DictOfH (nestedKind X.prog X.w) a xs ∧ xs.length ≤ sizeLine ∧ (a == sysModules) = false ∧ Paired (RN (rc X fa) p H) kvs xs ∧ Mut (H a) := by
  unfold asN at eo
  split at eo
  · cases eo
    obtain ⟨xs, h1, h2, h3, h4⟩ := ro
    obtain ⟨⟨o, es, ep, e1, e2, e3, e4, e5⟩, _, _⟩ := (show ObjOk X.prog X.w H s.heap a (.ext (RawN X.prog X.w a xs)) from I.hok a _ h1)
    exact ⟨xs, ⟨o, es, ep, e1, e2, e3, e4, keys_are I h4, e5⟩, h2, h3, h4, by rw [h1]; exact True.intro⟩
  · cases eo
    obtain ⟨us, h1, h2⟩ := ro
    cases h2
    obtain ⟨z, hd, vs, rel, o, es, ep, e1, e2, e3, _, e5, _⟩ := (show ObjOk X.prog X.w H s.heap a (.dK []) from I.hok a _ h1)
    cases rel
    have : es.toList = [] := by generalize es.toList = l at e5; cases e5; rfl
    exact ⟨[], ⟨o, es, ep, e1, e2, e3, this, fun x hx => (nomatch hx), List.nodup_nil⟩, Nat.zero_le _, hd, .nil, by rw [h1]; exact True.intro⟩
  · cases eo
theorem dict_r {a : Addr} {o : O} {kvs : List (NestedKey × D)} (I : Inv X pins σ H s) (ro : RO (rc X fa) p H a o) (eo : asR o = some kvs) :
    ∃ xs, s.heap.DictOfH (nestedKind X.prog X.w) a xs ∧ xs.length ≤ sizeLine ∧ (a == sysModules) = false ∧ Paired (RN (rc X fa) p H) kvs xs := by
  unfold asR at eo
  split at eo
  · obtain ⟨xs, h1, h2, h3, h4, _⟩ := dict_n (o := .dcN _) I ro eo
    exact ⟨xs, h1, h2, h3, h4⟩
  · obtain ⟨xs, h1, h2, h3, h4, _⟩ := dict_n (o := .dct []) I ro eo
    exact ⟨xs, h1, h2, h3, h4⟩
  · cases eo
    obtain ⟨ob, xs, h1, h2, h3, h4⟩ := ro
    obtain ⟨_, ⟨o, es, ep, e1, e2, e3, e4, e5⟩, _, _⟩ := (show ObjOk X.prog X.w H s.heap a (.frz ob (.ext (RawN X.prog X.w a xs))) from I.hok a _ h1)
    exact ⟨xs, ⟨o, es, ep, e1, e2, e3, e4, keys_are I h4, e5⟩, h2, h3, h4⟩
  · cases eo
theorem rn_get {k : NestedKey} : ∀ {kvs : List (NestedKey × D)} {xs : List (NestedKey × Addr × Value)}, Paired (RN (rc X fa) p H) kvs xs →
    (nGet kvs k = none ∧ atKey xs k = none) ∨ ∃ d v q, nGet kvs k = some d ∧ atKey xs k = some q ∧ RV (rc X fa) p H d v ∧ RelV v q.2
  | _, _, .nil => .inl ⟨rfl, rfl⟩
  | x :: xr, y :: yr, .cons h t => by
    obtain ⟨h1, h2, v, h3, h4⟩ := h
    by_cases e : y.1 = k
    · exact .inr ⟨x.2, v, y.2, by simp [nGet, List.find?_cons, h1, e], by simp [atKey, List.find?_cons, e], h3, h4⟩
    · have e1 : nGet (x :: xr) k = nGet xr k := by simp [nGet, List.find?_cons, h1, e]
      have e2 : atKey (y :: yr) k = atKey yr k := by simp [atKey, List.find?_cons, e]
      rw [e1, e2]
      exact rn_get t
theorem rn_isSome {k : NestedKey} {kvs : List (NestedKey × D)} {xs : List (NestedKey × Addr × Value)} (h : Paired (RN (rc X fa) p H) kvs xs) : (atKey xs k).isSome = (nGet kvs k).isSome := by
  rcases rn_get (k := k) h with ⟨e1, e2⟩ | ⟨d, v, q, e1, e2, _⟩ <;> rw [e1, e2] <;> rfl
theorem rn_snoc : ∀ {kvs : List (NestedKey × D)} {xs : List (NestedKey × Addr × Value)} {x : NestedKey × D} {y : NestedKey × Addr × Value}, Paired (RN (rc X fa) p H) kvs xs → RN (rc X fa) p H x y → Paired (RN (rc X fa) p H) (kvs ++ [x]) (xs ++ [y])
  | _, _, _, _, .nil, h => .cons h .nil
  | _, _, _, _, .cons a t, h => .cons a (rn_snoc t h)
theorem rn_map {k : NestedKey} {d : D} {v : V} {u : Value} (r : RV (rc X fa) p H d v) (q : RelV v u) : ∀ {kvs : List (NestedKey × D)} {xs : List (NestedKey × Addr × Value)}, Paired (RN (rc X fa) p H) kvs xs →
    Paired (RN (rc X fa) p H) (kvs.map fun kv => if kv.1 = k then (kv.1, d) else kv) (xs.map (putAt k u))
  | _, _, .nil => .nil
  | x :: xr, y :: yr, .cons h t => by
    refine .cons ?_ (rn_map r q t)
    obtain ⟨h1, h2, w, h3, h4⟩ := h
    unfold putAt
    dsimp only
    rw [h1]
    split
    · exact ⟨rfl, h2, v, r, q⟩
    · exact ⟨h1, h2, w, h3, h4⟩
theorem rn_put {k : NestedKey} {d : D} {v : V} {u : Value} {b : Addr} {kvs : List (NestedKey × D)} {xs : List (NestedKey × Addr × Value)} (h : Paired (RN (rc X fa) p H) kvs xs) (hk : KeyAt (rc X fa) p H b k) (r : RV (rc X fa) p H d v) (q : RelV v u) :
    Paired (RN (rc X fa) p H) (nPut kvs k d) (storedH xs k b u) := by
  unfold nPut storedH
  rw [rn_isSome h]
  split
  · exact rn_map r q h
  · exact rn_snoc h ⟨rfl, hk, v, r, q⟩
theorem key_at {d : D} {v : V} {u : Value} {k : NestedKey} (r : RV (rc X fa) p H d v) (e : tupN d = some k) (ru : RelV v u) : ∃ b, v = .ref b ∧ u = .ref b ∧ KeyAt (rc X fa) p H b k := by
  obtain ⟨ds, rfl, h1, h2⟩ := tupN_some e
  cases r with
  | @tup a xs _ s1 v1 => cases ru; exact ⟨a, rfl, rfl, ds, .tup s1 v1, h1, h2⟩
theorem key_ref {d : D} {v : V} {k : NestedKey} (r : RV (rc X fa) p H d v) (e : tupN d = some k) : ∃ b, v = .ref b ∧ KeyAt (rc X fa) p H b k := by
  obtain ⟨ds, rfl, h1, h2⟩ := tupN_some e
  cases r with
  | @tup a xs _ s1 v1 => exact ⟨a, rfl, ds, .tup s1 v1, h1, h2⟩
theorem key_is (I : Inv X pins σ H s) {b : Addr} {k : NestedKey} (h : KeyAt (rc X fa) p H b k) : (nestedKind X.prog X.w).is s.heap k b :=
  let ⟨_, h2, h3, h4⟩ := h
  ⟨nested_of I h2 h3 rfl, h4⟩
theorem paired_lengthN {A B : Type} {F : A → B → Prop} : ∀ {l : List A} {k : List B}, Paired F l k → l.length = k.length
  | _, _, .nil => rfl
  | _, _, .cons _ t => congrArg (· + 1) (paired_lengthN t)
variable {ob : O} {A : Around} {E : Value → Shared → Prop} {kvs : List (NestedKey × D)} {xs : List (NestedKey × Addr × Value)} {a b : Addr} {k : NestedKey} {u : Value}
theorem n_getItem {Q : Value → Shared → Prop} {d : D} (hu : A.units + 9 < cLine) (I : Inv X pins σ H s) (ro : RO (rc X fa) p H a ob) (eo : asR ob = some kvs) (hk : KeyAt (rc X fa) p H b k) (e : nGet kvs k = some d)
    (h : ∀ u s', Inv X pins σ H s' → (∃ v, RV (rc X fa) p H d v ∧ RelV v u) → Q u s') : wpAny (model X.prog X.w) A (getItem (.ref a) (.ref b)) Q E s := by
  obtain ⟨xs, hm, _, _, h4⟩ := dict_r I ro eo
  rcases rn_get (k := k) h4 with ⟨e1, _⟩ | ⟨d', v, q, e1, e2, h5, h6⟩
  · rw [e] at e1; cases e1
  · rw [e] at e1
    cases e1
    exact wpAny_getItem_heap (show A.in1.units + 8 < cLine by simp only [Around.in1_units]; omega) (key_is I hk) hm e2 (h q.2 _ (I.tok _) ⟨v, h5, h6⟩)
theorem n_typeIs (I : Inv X pins σ H s) (ro : RO (rc X fa) p H a ob) (eo : asR ob = some kvs) : s.TypeIs (.ref a) "dict" := by
  obtain ⟨xs, hm, _⟩ := dict_r I ro eo
  exact hm.typeIs
theorem n_in {Q : Value → Shared → Prop} (hu : A.units + 9 < cLine) (I : Inv X pins σ H s) (ro : RO (rc X fa) p H a ob) (eo : asR ob = some kvs) (hk : KeyAt (rc X fa) p H b k) (h : ∀ s', Inv X pins σ H s' → Q (.bool (nGet kvs k).isSome) s') :
    wpAny (model X.prog X.w) A (compareOp .In (.ref b) (.ref a)) Q E s := by
  obtain ⟨xs, hm, _, hd, h4⟩ := dict_r I ro eo
  refine wpAny_in_heap (show A.in1.units + 8 < cLine by simp only [Around.in1_units]; omega) (key_is I hk) hd hm ?_
  rw [rn_isSome h4]
  exact h _ (I.tok _)
theorem n_notIn {Q : Value → Shared → Prop} (hu : A.units + 9 < cLine) (I : Inv X pins σ H s) (ro : RO (rc X fa) p H a ob) (eo : asR ob = some kvs) (hk : KeyAt (rc X fa) p H b k) (h : ∀ s', Inv X pins σ H s' → Q (.bool (!(nGet kvs k).isSome)) s') :
    wpAny (model X.prog X.w) A (compareOp .NotIn (.ref b) (.ref a)) Q E s := by
  obtain ⟨xs, hm, _, hd, h4⟩ := dict_r I ro eo
  refine wpAny_notIn_heap (show A.in1.units + 8 < cLine by simp only [Around.in1_units]; omega) (key_is I hk) hd hm ?_
  rw [rn_isSome h4]
  exact h _ (I.tok _)
theorem n_len {Q : Value → Shared → Prop} (I : Inv X pins σ H s) (ro : RO (rc X fa) p H a ob) (eo : asR ob = some kvs) (h : ∀ t s', Inv X pins σ H s' → Q (.int kvs.length t) s') : wpAny (model X.prog X.w) A (call (.builtin "len") [.ref a]) Q E s := by
  obtain ⟨xs, hm, hz, hd, h4⟩ := dict_r I ro eo
  have hl : kvs.length = xs.length := paired_lengthN h4
  refine call_len_dictH hd hm (by rw [sizeLine_eq] at hz; omega) ?_
  rw [← hl]
  exact h _ _ (I.tok _)
theorem n_ok (q : RawN X.prog X.w a xs s.heap) : ObjOk X.prog X.w H s.heap a (.ext (RawN X.prog X.w a xs)) := by
  refine ⟨q, ?_, fun h1 h2 q st => ?_⟩
  · obtain ⟨o, es, ep, h, _⟩ := q; exact ⟨o, h⟩
  · obtain ⟨o, es, ep, h, r⟩ := q; exact ⟨o, es, ep, st o h, r⟩
theorem raw_of {h : Heap} (hm : h.DictOfH (nestedKind X.prog X.w) a xs) : RawN X.prog X.w a xs h := by
  obtain ⟨o, es, ep, h1, h2, h3, h4, _, h6⟩ := hm
  exact ⟨o, es, ep, h1, h2, h3, h4, h6⟩
theorem n_setItem {Q : Unit → Shared → Prop} {d : D} {v : V} (hu : A.units + 9 < cLine) (I : Inv X pins σ H s) (ro : RO (rc X fa) p H a ob) (eo : asN ob = some kvs) (hk : KeyAt (rc X fa) p H b k) (rv : RV (rc X fa) p H d v) (r : RelV v u) (hl : kvs.length < LINE)
    (h : ∀ s' H', Inv X pins σ H' s' → (∃ o, H' = upd H a o ∧ (Tm p H p H' → RO (rc X fa) p H' a (.dcN (nPut kvs k d)))) → Q () s') : wpAny (model X.prog X.w) A (setItem (.ref a) (.ref b) u) Q E s := by
  obtain ⟨xs, hm, hz, hd, h4, ha⟩ := dict_n I ro eo
  refine wpAny_setItem_heap (show A.in1.units + 8 < cLine by simp only [Around.in1_units]; omega) (key_is I hk) hm (fun h' hm' sb => ?_) hz
  have pr := rn_put h4 hk rv r
  have hlen : (storedH xs k b u).length ≤ sizeLine := by
    rw [← paired_lengthN pr, line_eq]
    unfold nPut
    split
    · rw [List.length_map]; omega
    · rw [List.length_append]; exact hl
  have I' : Inv X pins σ (upd H a (.ext (RawN X.prog X.w a (storedH xs k b u)))) { s with heap := h', toks := s.toks + (nestedKind X.prog X.w).draws k } := by
    refine I.write (x := a) (e := a) ha (.inl rfl) (fun b o hb e => (sb.2 b hb).trans e) ?_ (n_ok (s := { s with heap := h', toks := s.toks + (nestedKind X.prog X.w).draws k }) (raw_of hm'))
    obtain ⟨o, es, ep, h1, _⟩ := hm'
    exact ⟨o, h1⟩
  exact h _ _ I' ⟨_, rfl, fun t => ⟨_, upd_same, hlen, hd, paired_imp pr fun x y z => z.mono (List.prefix_refl _) t⟩⟩
end
end Jm

set_option Elab.async false
set_option linter.all false
set_option maxRecDepth 100000
set_option maxHeartbeats 2000000
/-! Jm, part D: comparisons. -/
namespace Jm
open PySem PySem.Spec PyProof.Rows L2

/-! ### data as trees of the library's own kind -/
def allSome {A : Type} : List (Option A) → Option (List A)
  | [] => some []
  | none :: _ => none
  | some a :: r => match allSome r with
    | some l => some (a :: l)
    | none => none
def pyV (S : Sto) : Nat → D → Option PyData
  | 0, _ => none
  | n + 1, d => match d with
    | .non => some .none
    | .bl b => some (.bool b)
    | .int i => some (.int i)
    | .str x => if PyData.strOk x = true then some (.str x) else none
    | .tup xs => (allSome (xs.map (pyV S n))).map .tuple
    | .loc l => match lstAt S l with
      | some xs => (allSome (xs.map (pyV S n))).map .list
      | none => none
    | _ => none
theorem allSome_cons {A : Type} {o : Option A} {r : List (Option A)} {l : List A} (h : allSome (o :: r) = some l) : ∃ a k, o = some a ∧ allSome r = some k ∧ l = a :: k := by
  cases o with
  | none => cases h
  | some a =>
    have h' : (match allSome r with | some l => some (a :: l) | none => none) = some l := h
    cases e : allSome r with
    | none => rw [e] at h'; cases h'
    | some k => rw [e] at h'; cases h'; exact ⟨a, k, rfl, rfl, rfl⟩
structure DOk (K : PySem.W.Frag) (H : Hp) (n : Nat) (v : V) (x : PyData) : Prop where
  dp : Dp K H v x
  lay : x.canLay0 = true
  dep : x.depth ≤ n
theorem all_ok {R : RC} {p : List Addr} {S : Sto} {H : Hp} {n : Nat} (ih : ∀ (d : D) (v : V) (x : PyData), RV R p H d v → pyV S n d = some x → DOk R.K H n v x) : ∀ (ds : List D) (vs : List V) (xs : List PyData), RVs R p H ds vs → allSome (ds.map (pyV S n)) = some xs →
    DpAll R.K H vs xs ∧ PyData.canLayAll0 xs = true ∧ PyData.depthAll xs ≤ n
  | [], _, xs, .nil, h => by cases h; exact ⟨.nil, rfl, Nat.zero_le _⟩
  | d :: ds, _, xs, .cons r rs, h => by
    obtain ⟨a, k, e1, e2, e3⟩ := allSome_cons h
    subst e3
    obtain ⟨h1, h2, h3⟩ := ih d _ a r e1
    obtain ⟨h4, h5, h6⟩ := all_ok ih ds _ k rs e2
    refine ⟨.cons h1 h4, ?_, ?_⟩
    · show (a.canLay0 && PyData.canLayAll0 k) = true
      rw [h2, h5]; rfl
    · show max a.depth (PyData.depthAll k) ≤ n
      omega
theorem pyV_ok {R : RC} {p : List Addr} {S : Sto} {H : Hp} (rs : RS R p S H) : ∀ (n : Nat) (d : D) (v : V) (x : PyData), RV R p H d v → pyV S n d = some x → DOk R.K H n v x
  | 0, d, v, x, r, h => by cases h
  | n + 1, d, v, x, r, h => by
    cases r with
    | non => cases h; exact ⟨.non, rfl, Nat.zero_le _⟩
    | bl b => cases h; exact ⟨.bl b, rfl, Nat.zero_le _⟩
    | int i => cases h; exact ⟨.int i, rfl, Nat.zero_le _⟩
    | str y =>
      have h' : (if PyData.strOk y = true then some (PyData.str y) else none) = some x := h
      split at h'
      · rename_i hy
        cases h'
        exact ⟨.str y, hy, Nat.zero_le _⟩
      · cases h'
    | @tup a xs ds s rr =>
      have h' : (allSome (ds.map (pyV S n))).map PyData.tuple = some x := h
      cases e : allSome (ds.map (pyV S n)) with
      | none => rw [e] at h'; cases h'
      | some l =>
        rw [e] at h'
        cases h'
        obtain ⟨h1, h2, h3⟩ := all_ok (pyV_ok rs n) ds xs l rr e
        exact ⟨.tup s.sq h1, h2, Nat.succ_le_succ h3⟩
    | ty n => cases h
    | fn i => cases h
    | rng n e => cases h
    | scr s r => cases h
    | sett _ _ _ _ _ _ => cases h
    | ins _ _ _ => cases h
    | exv _ _ _ _ _ => cases h
    | exv0 _ _ => cases h
    | exc _ _ _ _ => cases h
    | exc0 _ => cases h
    | @loc l a e =>
      have h' : (match lstAt S l with | some xs => (allSome (xs.map (pyV S n))).map PyData.list | none => none) = some x := h
      split at h'
      · rename_i ds q
        obtain ⟨vs, g1, rr⟩ := rs.list e q
        cases e : allSome (ds.map (pyV S n)) with
        | none => rw [e] at h'; cases h'
        | some l =>
          rw [e] at h'
          cases h'
          obtain ⟨h1, h2, h3⟩ := all_ok (pyV_ok rs n) ds vs l rr e
          exact ⟨.lst (.of g1) h1, h2, Nat.succ_le_succ h3⟩
      · cases h'
theorem DOk.sh {K : PySem.W.Frag} {H : Hp} {v : V} {x : PyData} (h : DOk K H 64 v x) : SeqAt.shaped x = true := by
  unfold SeqAt.shaped
  rw [h.lay, decide_eq_true h.dep]; rfl

/-! ### ==, != -/
def eqD (x y : D) (S : Sto) : Option (D × Sto) := match pyV S 64 x, pyV S 64 y with
  | some a, some b => some (.bl (PyData.eqv a b), S)
  | _, _ => none
def neD (x y : D) (S : Sto) : Option (D × Sto) := match pyV S 64 x, pyV S 64 y with
  | some a, some b => some (.bl (!PyData.eqv a b), S)
  | _, _ => none
section
variable {X : Cx} {fa : Gl0}
theorem op_eqJ (hu : X.A.units + 65 < cLine) : OpR X (compareOp .Eq) (x2 (rc X fa) eqD) := by
  intro pins s σ H x y v u Q I rx ry ⟨p, S, d1, d2, d, S', rs, r1, r2, e, q⟩
  unfold eqD at e
  split at e
  · rename_i a b ea eb
    cases e
    have h1 := pyV_ok rs 64 _ _ _ r1 ea
    have h2 := pyV_ok rs 64 _ _ _ r2 eb
    exact op_eqD (by omega) pins s σ H _ _ v u Q I rx ry ⟨a, b, h1.dp, h2.dp, h1.sh, h2.sh, at_once rs q (.bl _)⟩
  · cases e
theorem op_neJ (hu : X.A.units + 65 < cLine) : OpR X (compareOp .NotEq) (x2 (rc X fa) neD) := by
  intro pins s σ H x y v u Q I rx ry ⟨p, S, d1, d2, d, S', rs, r1, r2, e, q⟩
  unfold neD at e
  split at e
  · rename_i a b ea eb
    cases e
    have h1 := pyV_ok rs 64 _ _ _ r1 ea
    have h2 := pyV_ok rs 64 _ _ _ r2 eb
    exact op_neD (by omega) pins s σ H _ _ v u Q I rx ry ⟨a, b, h1.dp, h2.dp, h1.sh, h2.sh, at_once rs q (.bl _)⟩
  · cases e

/-! ### <, <=, >, >= -/
def ltD (x y : D) (S : Sto) : Option (D × Sto) := match x, y with
  | .int a, .int b => some (.bl (decide (a < b)), S)
  | .str a, .str b => some (.bl (decide (a.cps.toList < b.cps.toList)), S)
  | _, _ => none
def leD (x y : D) (S : Sto) : Option (D × Sto) := match x, y with
  | .int a, .int b => some (.bl (decide (a ≤ b)), S)
  | _, _ => none
def gtD (x y : D) (S : Sto) : Option (D × Sto) := match x, y with
  | .int a, .int b => some (.bl (decide (b < a)), S)
  | _, _ => none
def geD (x y : D) (S : Sto) : Option (D × Sto) := match x, y with
  | .int a, .int b => some (.bl (decide (b ≤ a)), S)
  | _, _ => none
theorem op_ltJ : OpR X (compareOp .Lt) (x2 (rc X fa) ltD) := by
  intro pins s σ H x y v u Q I rx ry ⟨p, S, d1, d2, d, S', rs, r1, r2, e, q⟩
  cases r1 with
  | int i =>
    cases r2 with
    | int j => cases e; exact op_lt pins s σ H _ _ v u Q I rx ry ⟨i, j, rfl, rfl, at_once rs q (.bl _)⟩
    | _ => exact nomatch e
  | str i =>
    cases r2 with
    | str j => cases e; exact op_lt_str pins s σ H _ _ v u Q I rx ry ⟨i, j, rfl, rfl, at_once rs q (.bl _)⟩
    | _ => exact nomatch e
  | _ => exact nomatch e
theorem op_leJ : OpR X (compareOp .LtE) (x2 (rc X fa) leD) := by
  intro pins s σ H x y v u Q I rx ry ⟨p, S, d1, d2, d, S', rs, r1, r2, e, q⟩
  cases r1 with
  | int i =>
    cases r2 with
    | int j => cases e; exact op_le pins s σ H _ _ v u Q I rx ry ⟨i, j, rfl, rfl, at_once rs q (.bl _)⟩
    | _ => exact nomatch e
  | _ => exact nomatch e
theorem op_gtJ : OpR X (compareOp .Gt) (x2 (rc X fa) gtD) := by
  intro pins s σ H x y v u Q I rx ry ⟨p, S, d1, d2, d, S', rs, r1, r2, e, q⟩
  cases r1 with
  | int i =>
    cases r2 with
    | int j => cases e; exact op_gt pins s σ H _ _ v u Q I rx ry ⟨i, j, rfl, rfl, at_once rs q (.bl _)⟩
    | _ => exact nomatch e
  | _ => exact nomatch e
theorem op_geJ : OpR X (compareOp .GtE) (x2 (rc X fa) geD) := by
  intro pins s σ H x y v u Q I rx ry ⟨p, S, d1, d2, d, S', rs, r1, r2, e, q⟩
  cases r1 with
  | int i =>
    cases r2 with
    | int j => cases e; exact op_ge pins s σ H _ _ v u Q I rx ry ⟨i, j, rfl, rfl, at_once rs q (.bl _)⟩
    | _ => exact nomatch e
  | _ => exact nomatch e

/-! ### is, is not: None, True, False -/
def isD (x y : D) (S : Sto) : Option (D × Sto) := match y with
  | .non => match x with
    | .non => some (.bl true, S)
    | _ => some (.bl false, S)
  | .bl b => match x with
    | .bl a => some (.bl (a == b), S)
    | .non => some (.bl false, S)
    | _ => none
  | _ => none
def isntD (x y : D) (S : Sto) : Option (D × Sto) := match isD x y S with
  | some (.bl b, S) => some (.bl (!b), S)
  | _ => none
theorem is_none_bool {M : Model} {A : Around} {E0 : Value → Shared → Prop} {c : Bool} {Q : Value → Shared → Prop} {s : Shared} (h : Q (.bool false) s) : wpAny M A (compareOp .Is .none (.bool c)) Q E0 s :=
  wpAny_pure (a := Value.bool (Value.none == Value.bool c)) (by cases c <;> exact h)
theorem isnot_none_bool {M : Model} {A : Around} {E0 : Value → Shared → Prop} {c : Bool} {Q : Value → Shared → Prop} {s : Shared} (h : Q (.bool true) s) : wpAny M A (compareOp .IsNot .none (.bool c)) Q E0 s :=
  wpAny_pure (a := Value.bool (!(Value.none == Value.bool c))) (by cases c <;> exact h)
theorem isD_cases {x y d : D} {S S' : Sto} (e : isD x y S = some (d, S')) : S' = S ∧ ((y = .non ∧ ((x = .non ∧ d = .bl true) ∨ (x ≠ .non ∧ d = .bl false))) ∨ ∃ b, y = .bl b ∧ ((∃ a, x = .bl a ∧ d = .bl (a == b)) ∨ (x = .non ∧ d = .bl false))) := by
  unfold isD at e
  split at e
  · split at e
    · cases e; exact ⟨rfl, .inl ⟨rfl, .inl ⟨rfl, rfl⟩⟩⟩
    · rename_i h; cases e; exact ⟨rfl, .inl ⟨rfl, .inr ⟨h, rfl⟩⟩⟩
  · split at e
    · cases e; exact ⟨rfl, .inr ⟨_, rfl, .inl ⟨_, rfl, rfl⟩⟩⟩
    · cases e; exact ⟨rfl, .inr ⟨_, rfl, .inr ⟨rfl, rfl⟩⟩⟩
    · cases e
  · cases e
theorem RV.non_iff {R : RC} {p : List Addr} {H : Hp} {d : D} {v : V} (r : RV R p H d v) (n : d ≠ .non) : v ≠ .non := by
  intro z; subst z; cases r; exact n rfl
theorem op_isJ : OpR X (compareOp .Is) (x2 (rc X fa) isD) := by
  intro pins s σ H x y v u Q I rx ry ⟨p, S, d1, d2, d, S', rs, r1, r2, e, q⟩
  obtain ⟨rfl, ⟨rfl, ⟨rfl, rfl⟩ | ⟨hn, rfl⟩⟩ | ⟨b, rfl, ⟨a, rfl, rfl⟩ | ⟨rfl, rfl⟩⟩⟩ := isD_cases e
  · cases r1; cases r2
    exact op_isN pins s σ H _ _ v u Q I rx ry ⟨rfl, at_once rs q (.bl _)⟩
  · cases r2
    refine op_isN pins s σ H _ _ v u Q I rx ry ⟨rfl, ?_⟩
    rw [decide_eq_false (r1.non_iff hn)]
    exact at_once rs q (.bl _)
  · cases r1; cases r2; cases rx; cases ry
    exact is_bool ⟨.bl _, H, I, rfl, at_once rs q (.bl _)⟩
  · cases r1; cases r2; cases rx; cases ry
    exact is_none_bool ⟨.bl _, H, I, rfl, at_once rs q (.bl _)⟩
theorem op_isntJ : OpR X (compareOp .IsNot) (x2 (rc X fa) isntD) := by
  intro pins s σ H x y v u Q I rx ry ⟨p, S, d1, d2, d, S', rs, r1, r2, e, q⟩
  unfold isntD at e
  split at e
  · rename_i b S2 e1
    cases e
    obtain ⟨rfl, ⟨rfl, ⟨rfl, h⟩ | ⟨hn, h⟩⟩ | ⟨b', rfl, ⟨a, rfl, h⟩ | ⟨rfl, h⟩⟩⟩ := isD_cases e1
    · cases h
      cases r1; cases r2
      exact op_notN pins s σ H _ _ v u Q I rx ry ⟨rfl, at_once rs q (.bl _)⟩
    · cases h
      cases r2
      refine op_notN pins s σ H _ _ v u Q I rx ry ⟨rfl, ?_⟩
      rw [decide_eq_false (r1.non_iff hn)]
      exact at_once rs q (.bl _)
    · cases h
      cases r1; cases r2; cases rx; cases ry
      exact isnot_bool ⟨.bl _, H, I, rfl, at_once rs q (.bl _)⟩
    · cases h
      cases r1; cases r2; cases rx; cases ry
      exact isnot_none_bool ⟨.bl _, H, I, rfl, at_once rs q (.bl _)⟩
  · cases e

/-! ### in, not in -/
def keyD : D → Option Key
  | .int i => some (.inl i)
  | .str x => some (.inr x)
  | _ => none
def kvGet (kvs : List (Key × D)) (k : Key) : Option D := (kvs.find? fun kv => decide (kv.1 = k)).map (·.2)
def memK (y : D) (o : Option Key) (S : Sto) : Option Bool := match o with
  | none => none
  | some k => match y with
    | .loc l => match dctAt S l with
      | some kvs => some (kvGet kvs k).isSome
      | none => none
    | _ => none
theorem memK_ok {y : D} {o : Option Key} {S : Sto} {b : Bool} (h : memK y o S = some b) : ∃ k l kvs, o = some k ∧ y = .loc l ∧ dctAt S l = some kvs ∧ b = (kvGet kvs k).isSome := by
  cases o with
  | none => cases h
  | some k =>
    cases y with
    | loc l =>
      have h' : (match dctAt S l with | some kvs => some (kvGet kvs k).isSome | none => none) = some b := h
      cases e : dctAt S l with
      | none => rw [e] at h'; cases h'
      | some kvs => rw [e] at h'; cases h'; exact ⟨k, l, kvs, rfl, rfl, e, rfl⟩
    | _ => cases h
def memN (y : D) (o : Option NestedKey) (S : Sto) : Option Bool := match o with
  | none => none
  | some k => match y with
    | .loc l => match (S[l]?).bind asR with
      | some kvs => some (nGet kvs k).isSome
      | none => none
    | _ => none
theorem memN_ok {y : D} {o : Option NestedKey} {S : Sto} {b : Bool} (h : memN y o S = some b) : ∃ k l ob kvs, o = some k ∧ y = .loc l ∧ S[l]? = some ob ∧ asR ob = some kvs ∧ b = (nGet kvs k).isSome := by
  unfold memN at h
  split at h
  · cases h
  · rename_i k
    split at h
    · rename_i l
      split at h
      · rename_i kvs e
        cases h
        obtain ⟨ob, e1, e2⟩ := Option.bind_eq_some_iff.mp e
        exact ⟨k, l, ob, kvs, rfl, rfl, e1, e2, rfl⟩
      · cases h
    · cases h
def memKN (x y : D) (S : Sto) : Option Bool := match memN y (tupN x) S with
  | some b => some b
  | none => memK y (keyD x) S
def memD (x y : D) (S : Sto) : Option Bool := match y with
  | .str b => match x with
    | .str a => some (!(Builtin.Str.occurrences b a 0 b.length 1).isEmpty)
    | _ => none
  | .sett ds => match tupN x, keysOf ds with
    | some k, some ks => some (decide (k ∈ ks))
    | _, _ => none
  | _ => match pyV S 64 x, pyV S 64 y with
    | some a, some (.tuple bs) => some (bs.any fun z => PyData.eqv z a)
    | some a, some (.list bs) => some (bs.any fun z => PyData.eqv z a)
    | _, _ => memKN x y S
def inD (x y : D) (S : Sto) : Option (D × Sto) := match memD x y S with
  | some b => some (.bl b, S)
  | none => none
def notInD (x y : D) (S : Sto) : Option (D × Sto) := match memD x y S with
  | some b => some (.bl (!b), S)
  | none => none
theorem RS.dict {R : RC} {p : List Addr} {S : Sto} {H : Hp} (rs : RS R p S H) {l : Nat} {a : Addr} {ds : List (Key × D)} (e : p[l]? = some a) (h : dctAt S l = some ds) :
    ∃ us : List (Key × V), Rd H a (.dK us) ∧ Paired (fun (x : Key × D) (y : Key × V) => x.1 = y.1 ∧ RV R p H x.2 y.2) ds us := by
  unfold dctAt at h
  split at h
  · rename_i q
    cases h
    obtain ⟨us, h1, h2⟩ := rs.at_ l _ a q e
    exact ⟨us, .inl h1, h2⟩
  · rename_i q
    cases h
    obtain ⟨o, us, h1, h2⟩ := rs.at_ l _ a q e
    exact ⟨us, .inr ⟨o, h1⟩, h2⟩
  · cases h
theorem kv_get {R : RC} {p : List Addr} {H : Hp} {k : Key} : ∀ {ds : List (Key × D)} {us : List (Key × V)}, Paired (fun (x : Key × D) (y : Key × V) => x.1 = y.1 ∧ RV R p H x.2 y.2) ds us →
    (kvGet ds k = none ∧ valV us k = none) ∨ ∃ d v, kvGet ds k = some d ∧ valV us k = some v ∧ RV R p H d v
  | _, _, .nil => .inl ⟨rfl, rfl⟩
  | x :: xr, y :: yr, .cons h t => by
    obtain ⟨h1, h2⟩ := h
    by_cases e : y.1 = k
    · exact .inr ⟨x.2, y.2, by simp [kvGet, List.find?_cons, h1, e], by simp [valV, List.find?_cons, e], h2⟩
    · have e1 : kvGet (x :: xr) k = kvGet xr k := by simp [kvGet, List.find?_cons, h1, e]
      have e2 : valV (y :: yr) k = valV yr k := valV_neg e
      rw [e1, e2]
      exact kv_get t
theorem key_of {R : RC} {p : List Addr} {H : Hp} {d : D} {v : V} {k : Key} (r : RV R p H d v) (e : keyD d = some k) : v = kV k := by
  cases r with
  | int i => cases e; rfl
  | str x => cases e; rfl
  | _ => exact nomatch e
theorem mem_ok {p : List Addr} {S : Sto} {H : Hp} {d1 d2 : D} {x y : V} {b : Bool} (rs : RS (rc X fa) p S H) (r1 : RV (rc X fa) p H d1 x) (r2 : RV (rc X fa) p H d2 y) (e : memD d1 d2 S = some b) :
    (∃ i j, x = .str i ∧ y = .str j ∧ b = !(Builtin.Str.occurrences j i 0 j.length 1).isEmpty) ∨
    (∃ d ds, Dp X.K H x d ∧ SeqAt.shaped d = true ∧ ((Dp X.K H y (.tuple ds) ∧ SeqAt.shaped (.tuple ds) = true) ∨ (Dp X.K H y (.list ds) ∧ SeqAt.shaped (.list ds) = true)) ∧ b = ds.any fun z => PyData.eqv z d) ∨
    (∃ a kvs k, y = .ref a ∧ Rd H a (.dK kvs) ∧ x = kV k ∧ b = (valV kvs k).isSome) ∨
    (∃ a ob kvs k, y = .ref a ∧ (RO (rc X fa) p H a ob ∧ asR ob = some kvs) ∧ (∃ c, x = .ref c ∧ KeyAt (rc X fa) p H c k) ∧ b = (nGet kvs k).isSome) ∨
    ∃ (a : Addr) (L L0 : List (Addr × NestedKey)) (ds : List D) (k : NestedKey), y = .ref a ∧ (H a = some (.ext (RawS X.w a L)) ∧ RVs (rc X fa) p H ds (L0.map fun x => V.ref x.1) ∧ keysOf ds = some (L0.map (·.2)) ∧ (∀ x ∈ L, x ∈ L0)) ∧ (∃ c, x = .ref c ∧ KeyAt (rc X fa) p H c k) ∧ b = decide (k ∈ L.map (·.2)) := by
  unfold memD at e
  split at e
  · split at e
    · cases e; cases r1; cases r2
      exact .inl ⟨_, _, rfl, rfl, rfl⟩
    · cases e
  · split at e
    · rename_i ds k ks ek eks
      cases e
      cases r2 with
      | sett n h r h1 h2 h3 =>
        rw [h1] at eks
        cases eks
        exact .inr (.inr (.inr (.inr ⟨_, _, _, _, k, rfl, ⟨h, r, h1, h2⟩, key_ref r1 ek, by rw [decide_eq_decide]; exact (h3 k).symm⟩)))
    · cases e
  · split at e
    · rename_i a bs ea eb
      cases e
      have h1 := pyV_ok rs 64 _ _ _ r1 ea
      have h2 := pyV_ok rs 64 _ _ _ r2 eb
      exact .inr (.inl ⟨a, bs, h1.dp, h1.sh, .inl ⟨h2.dp, h2.sh⟩, rfl⟩)
    · rename_i a bs ea eb
      cases e
      have h1 := pyV_ok rs 64 _ _ _ r1 ea
      have h2 := pyV_ok rs 64 _ _ _ r2 eb
      exact .inr (.inl ⟨a, bs, h1.dp, h1.sh, .inr ⟨h2.dp, h2.sh⟩, rfl⟩)
    · unfold memKN at e
      split at e
      · rename_i b' e9
        cases e
        obtain ⟨k, l, ob, kvs, ek, rfl, ek2, ek3, rfl⟩ := memN_ok e9
        cases r2 with
        | loc h => exact .inr (.inr (.inr (.inl ⟨_, ob, kvs, k, rfl, ⟨rs.at_ l _ _ ek2 h, ek3⟩, key_ref r1 ek, rfl⟩)))
      · obtain ⟨k, l, kvs, ek, rfl, ek2, rfl⟩ := memK_ok e
        cases r2 with
        | loc h =>
          obtain ⟨us, g1, g2⟩ := rs.dict h ek2
          refine .inr (.inr (.inl ⟨_, us, k, rfl, g1, key_of r1 ek, ?_⟩))
          rcases kv_get (k := k) g2 with ⟨q1, q2⟩ | ⟨d, v, q1, q2, _⟩ <;> rw [q1, q2] <;> rfl
theorem keys_atN {pins : List (Addr × Obj)} {σ : L2.St} {H : Hp} {s : Shared} {p : List Addr} (I : Inv X pins σ H s) : ∀ {ds : List D} {L0 : List (Addr × NestedKey)}, RVs (rc X fa) p H ds (L0.map fun x => V.ref x.1) → keysOf ds = some (L0.map (·.2)) → ∀ x ∈ L0, NIs s.heap x.2 x.1
  | [], L0, r, e, x, hx => by
    cases e' : L0 with
    | nil => rw [e'] at hx; cases hx
    | cons y L => rw [e'] at r; cases r
  | d :: ds, [], r, e, x, hx => nomatch hx
  | d :: ds, y :: L, .cons r rs, e, x, hx => by
    have e' : (match tupN d, keysOf ds with | some k, some ks => some (k :: ks) | _, _ => none) = some (y.2 :: L.map (·.2)) := e
    split at e'
    · rename_i k ks e1 e2
      injection e' with e'
      injection e' with e3 e4
      subst e3
      rw [e4] at e2
      rcases List.mem_cons.mp hx with z | z
      · rw [z]
        obtain ⟨b, q1, q2⟩ := key_ref r e1
        cases q1
        exact key_is I q2
      · exact keys_atN I rs e2 x z
    · cases e'
theorem set_raw {pins : List (Addr × Obj)} {σ : L2.St} {H : Hp} {s : Shared} {p : List Addr} {a : Addr} {L L0 : List (Addr × NestedKey)} {ds : List D} (I : Inv X pins σ H s) (g1 : H a = some (.ext (RawS X.w a L))) (g2 : RVs (rc X fa) p H ds (L0.map fun x => V.ref x.1)) (g3 : keysOf ds = some (L0.map (·.2))) (g4 : ∀ x ∈ L, x ∈ L0) :
    ∃ es ep t, SetN X.prog X.w s.heap a L es ep t := by
  obtain ⟨⟨o, es, ep, t, e1, e2, e3, e4, e5, e6, e7, e8, e9⟩, _, _⟩ := (show ObjOk X.prog X.w H s.heap a (.ext (RawS X.w a L)) from I.hok a _ g1)
  exact ⟨es, ep, t, ⟨o, e1, e2, e3⟩, e4, e5, e6, fun x hx => keys_atN I g2 g3 x (g4 x hx), e7, e8, e9⟩
theorem op_inJ (hu : X.A.units + 65 < cLine) : OpR X (compareOp .In) (x2 (rc X fa) inD) := by
  intro pins s σ H x y v u Q I rx ry ⟨p, S, d1, d2, d, S', rs, r1, r2, e, q⟩
  unfold inD at e
  split at e
  · rename_i b eb
    cases e
    rcases mem_ok rs r1 r2 eb with ⟨i, j, rfl, rfl, rfl⟩ | ⟨dd, ds, hd, sd, h, rfl⟩ | ⟨a, kvs, k, rfl, g, rfl, rfl⟩ | ⟨a, ob, kvs, k, rfl, ⟨ro, eo⟩, ⟨c, rfl, hk⟩, rfl⟩ | ⟨a, L, L0, ds, k, rfl, ⟨g1, g2, g3, g4⟩, ⟨c, rfl, hk⟩, rfl⟩
    · exact op_in_str pins s σ H _ _ v u Q I rx ry ⟨i, j, rfl, rfl, at_once rs q (.bl _)⟩
    · rcases h with ⟨he, se⟩ | ⟨he, se⟩
      · obtain ⟨as, w1⟩ := Dp.reads I dd x v hd rx
        obtain ⟨bs, w2⟩ := Dp.reads I (.tuple ds) y u he ry
        exact SeqAt.in_tuple_reads w2 w1 (SeqAt.canLay_of_shaped se) (SeqAt.canLay_of_shaped sd) (room_in_shaped sd hu) ⟨.bl _, H, I, rfl, at_once rs q (.bl _)⟩
      · exact op_inD hu pins s σ H _ _ v u Q I rx ry ⟨dd, ds, hd, he, sd, se, at_once rs q (.bl _)⟩
    · cases ry
      exact d_in (by omega) I (.inl ⟨_, _, g, rfl, rfl⟩) rx fun s' I' => ⟨.bl _, H, I', rfl, at_once rs q (.bl _)⟩
    · cases rx
      cases ry
      exact n_in (by omega) I ro eo hk fun s' I' => ⟨.bl _, H, I', rfl, at_once rs q (.bl _)⟩
    · cases rx
      cases ry
      obtain ⟨es, ep, t, S1⟩ := set_raw I g1 g2 g3 g4
      exact in_setN S1 (key_is I hk) (by omega) ⟨.bl _, H, I.tok _, rfl, at_once rs q (.bl _)⟩
  · cases e
theorem op_notInJ (hu : X.A.units + 65 < cLine) : OpR X (compareOp .NotIn) (x2 (rc X fa) notInD) := by
  intro pins s σ H x y v u Q I rx ry ⟨p, S, d1, d2, d, S', rs, r1, r2, e, q⟩
  unfold notInD at e
  split at e
  · rename_i b eb
    cases e
    rcases mem_ok rs r1 r2 eb with ⟨i, j, rfl, rfl, rfl⟩ | ⟨dd, ds, hd, sd, h, rfl⟩ | ⟨a, kvs, k, rfl, g, rfl, rfl⟩ | ⟨a, ob, kvs, k, rfl, ⟨ro, eo⟩, ⟨c, rfl, hk⟩, rfl⟩ | ⟨a, L, L0, ds, k, rfl, ⟨g1, g2, g3, g4⟩, ⟨c, rfl, hk⟩, rfl⟩
    · exact op_notIn_str pins s σ H _ _ v u Q I rx ry ⟨i, j, rfl, rfl, at_once rs q (.bl _)⟩
    · rcases h with ⟨he, se⟩ | ⟨he, se⟩
      · obtain ⟨as, w1⟩ := Dp.reads I dd x v hd rx
        obtain ⟨bs, w2⟩ := Dp.reads I (.tuple ds) y u he ry
        exact SeqAt.notIn_tuple_reads w2 w1 (SeqAt.canLay_of_shaped se) (SeqAt.canLay_of_shaped sd) (room_in_shaped sd hu) ⟨.bl _, H, I, rfl, at_once rs q (.bl _)⟩
      · exact op_notInD hu pins s σ H _ _ v u Q I rx ry ⟨dd, ds, hd, he, sd, se, at_once rs q (.bl _)⟩
    · cases ry
      exact d_notIn (by omega) I (.inl ⟨_, _, g, rfl, rfl⟩) rx fun s' I' => ⟨.bl _, H, I', rfl, at_once rs q (.bl _)⟩
    · cases rx
      cases ry
      exact n_notIn (by omega) I ro eo hk fun s' I' => ⟨.bl _, H, I', rfl, at_once rs q (.bl _)⟩
    · cases rx
      cases ry
      obtain ⟨es, ep, t, S1⟩ := set_raw I g1 g2 g3 g4
      exact notIn_setN S1 (key_is I hk) (by omega) ⟨.bl _, H, I.tok _, rfl, at_once rs q (.bl _)⟩
  · cases e
/-- which comparisons there are -/
def cmpD : CmpOp → D → D → Sto → Option (D × Sto)
  | .Eq => eqD
  | .NotEq => neD
  | .Lt => ltD
  | .LtE => leD
  | .Gt => gtD
  | .GtE => geD
  | .Is => isD
  | .IsNot => isntD
  | .In => inD
  | .NotIn => notInD
theorem op_cmpD (hu : X.A.units + 65 < cLine) (op : CmpOp) : OpR X (compareOp op) (x2 (rc X fa) (cmpD op)) := by
  cases op
  · exact op_eqJ hu
  · exact op_neJ hu
  · exact op_ltJ
  · exact op_leJ
  · exact op_gtJ
  · exact op_geJ
  · exact op_isJ
  · exact op_isntJ
  · exact op_inJ hu
  · exact op_notInJ hu
end
end Jm

set_option Elab.async false
set_option linter.all false
set_option maxRecDepth 100000
set_option maxHeartbeats 4000000
/-! Jm, part E: subscripts, slices. -/
namespace Jm
open PySem PySem.Spec PyProof.Rows L2
section
variable {X : Cx} {fa : Gl0} {W : WX} {e a b : Expr} {es : List Expr} {pos : Pos}

/-! ### o[i] -/
def idxSeq (xs : List D) (y : D) (S : Sto) : Option (D × Sto) := match y with
  | .int i => (atI xs i).map fun d => (d, S)
  | _ => none
def idxKey (kvs : List (Key × D)) (o : Option Key) (S : Sto) : Option (D × Sto) := match o with
  | some k => (kvGet kvs k).map fun d => (d, S)
  | none => none
def idxNst (kvs : List (NestedKey × D)) (o : Option NestedKey) (S : Sto) : Option (D × Sto) := match o with
  | some k => (nGet kvs k).map fun d => (d, S)
  | none => none
def idxLoc (l : Nat) (y : D) (S : Sto) : Option (D × Sto) := match S[l]? with
  | some (.lst xs) => idxSeq xs y S
  | some (.dct kvs) => idxKey kvs (keyD y) S
  | some (.dcN kvs) => idxNst kvs (tupN y) S
  | some (.dctZ kvs) => idxKey kvs (keyD y) S
  | some (.dcNZ kvs) => idxNst kvs (tupN y) S
  | none => none
def idxD (x y : D) (S : Sto) : Option (D × Sto) := match x with
  | .tup xs => idxSeq xs y S
  | .scr xs => idxSeq xs y S
  | .str z => match y with
    | .int i => if z.length ≤ LINE then (atI z.cps.toList i).map fun c => (.str ⟨#[c]⟩, S) else none
    | _ => none
  | .loc l => idxLoc l y S
  | _ => none
theorem idxSeq_ok {xs : List D} {y d : D} {S S' : Sto} (h : idxSeq xs y S = some (d, S')) : ∃ i, y = .int i ∧ atI xs i = some d ∧ S' = S := by
  cases y with
  | int i =>
    have h' : (atI xs i).map (fun d => (d, S)) = some (d, S') := h
    cases e : atI xs i with
    | none => rw [e] at h'; cases h'
    | some z => rw [e] at h'; cases h'; exact ⟨i, rfl, e, rfl⟩
  | _ => exact nomatch h
theorem RVs.atI {R : RC} {p : List Addr} {H : Hp} {ds : List D} {vs : List V} {i : Int} {d : D} (r : RVs R p H ds vs) (e : atI ds i = some d) : ∃ v, L2.atI vs i = some v ∧ RV R p H d v := by
  unfold L2.atI at e ⊢
  cases q : ixN ds.length i with
  | none => rw [q] at e; cases e
  | some j =>
    rw [q] at e
    rw [← r.length, q]
    exact r.get e
theorem ix_J (hu : X.A.units + 65 < cLine) : IxR X (x2 (rc X fa) idxD) := by
  intro value slice pins s σ H x y v u Q I rx ry ⟨p, S, d1, d2, d, S', rs, r1, r2, e, q⟩ hs
  cases r1 with
  | @tup a xs ds s1 v1 =>
    obtain ⟨i, rfl, e2, rfl⟩ := idxSeq_ok e
    cases r2
    obtain ⟨z', h1, h2⟩ := v1.atI e2
    exact ix_tup value slice pins s σ H _ _ v u Q I rx ry ⟨a, xs, i, z', rfl, rfl, s1.sq, h1, at_once rs q h2⟩ hs
  | @scr a xs ds s1 v1 =>
    obtain ⟨i, rfl, e2, rfl⟩ := idxSeq_ok e
    cases r2
    obtain ⟨z', h1, h2⟩ := v1.atI e2
    exact ix_list value slice pins s σ H _ _ v u Q I rx ry ⟨a, xs, i, z', rfl, rfl, s1.sq, h1, at_once rs q h2⟩ hs
  | str z =>
    cases r2 with
    | int i =>
      have e' : (if z.length ≤ LINE then (atI z.cps.toList i).map (fun c => (D.str ⟨#[c]⟩, S)) else none) = some (d, S') := e
      split at e'
      · rename_i hl
        cases e2 : atI z.cps.toList i with
        | none => rw [e2] at e'; cases e'
        | some c =>
          rw [e2] at e'
          cases e'
          exact ix_str value slice pins s σ H _ _ v u Q I rx ry ⟨z, i, c, rfl, rfl, by rw [line_eq]; exact hl, e2, at_once rs q (.str _)⟩ hs
      · cases e'
    | _ => exact nomatch e
  | @loc l a h =>
    have e' : idxLoc l d2 S = some (d, S') := e
    unfold idxLoc at e'
    split at e'
    · rename_i ds e3
      obtain ⟨vs, g1, g2⟩ := rs.at_ l _ a e3 h
      obtain ⟨i, rfl, e2, rfl⟩ := idxSeq_ok e'
      cases r2
      obtain ⟨z', h1, h2⟩ := g2.atI e2
      exact ix_list value slice pins s σ H _ _ v u Q I rx ry ⟨a, vs, i, z', rfl, rfl, .of g1, h1, at_once rs q h2⟩ hs
    · rename_i kvs e3
      obtain ⟨us, g1, g2⟩ := rs.at_ l _ a e3 h
      cases e5 : keyD d2 with
      | none => rw [e5] at e'; cases e'
      | some k =>
        rw [e5] at e'
        have e' : (kvGet kvs k).map (fun d => (d, S)) = some (d, S') := e'
        rcases kv_get (k := k) g2 with ⟨q1, _⟩ | ⟨d0, v0, q1, q2, q3⟩
        · rw [q1] at e'; cases e'
        · rw [q1] at e'
          cases e'
          have hk := key_of r2 e5
          subst hk
          cases rx
          have g : DGet H a (kV k) (some v0) := by rw [← q2]; exact .k g1
          exact tail_any (dict_typeIs I g) PySem.F.slot_dict_getitem.lookup (d_getItem (by omega) I g ry fun w' s3 I3 rw' => ⟨v0, H, I3, rw', at_once rs q q3⟩) hs
    · rename_i kvs e3
      have ro := rs.at_ l _ a e3 h
      cases e5 : tupN d2 with
      | none => rw [e5] at e'; cases e'
      | some k =>
        rw [e5] at e'
        have e' : (nGet kvs k).map (fun d => (d, S)) = some (d, S') := e'
        cases e6 : nGet kvs k with
        | none => rw [e6] at e'; cases e'
        | some d0 =>
          rw [e6] at e'
          cases e'
          obtain ⟨b, _, rfl, hk⟩ := key_at r2 e5 ry
          cases rx
          exact tail_any (n_typeIs I ro rfl) PySem.F.slot_dict_getitem.lookup (n_getItem (by omega) I ro rfl hk e6 fun w' s3 I3 ⟨v, rv, rw'⟩ => ⟨v, H, I3, rw', at_once rs q rv⟩) hs
    · rename_i kvs e3
      obtain ⟨o, us, g1, g2⟩ := rs.at_ l _ a e3 h
      cases e5 : keyD d2 with
      | none => rw [e5] at e'; cases e'
      | some k =>
        rw [e5] at e'
        have e' : (kvGet kvs k).map (fun d => (d, S)) = some (d, S') := e'
        rcases kv_get (k := k) g2 with ⟨q1, _⟩ | ⟨d0, v0, q1, q2, q3⟩
        · rw [q1] at e'; cases e'
        · rw [q1] at e'
          cases e'
          have hk := key_of r2 e5
          subst hk
          cases rx
          have g : DGet H a (kV k) (some v0) := .inl ⟨us, k, .inr ⟨o, g1⟩, rfl, q2.symm⟩
          exact tail_any (dict_typeIs I g) PySem.F.slot_dict_getitem.lookup (d_getItem (by omega) I g ry fun w' s3 I3 rw' => ⟨v0, H, I3, rw', at_once rs q q3⟩) hs
    · rename_i kvs e3
      have ro := rs.at_ l _ a e3 h
      cases e5 : tupN d2 with
      | none => rw [e5] at e'; cases e'
      | some k =>
        rw [e5] at e'
        have e' : (nGet kvs k).map (fun d => (d, S)) = some (d, S') := e'
        cases e6 : nGet kvs k with
        | none => rw [e6] at e'; cases e'
        | some d0 =>
          rw [e6] at e'
          cases e'
          obtain ⟨b, _, rfl, hk⟩ := key_at r2 e5 ry
          cases rx
          exact tail_any (n_typeIs I ro rfl) PySem.F.slot_dict_getitem.lookup (n_getItem (by omega) I ro rfl hk e6 fun w' s3 I3 ⟨v, rv, rw'⟩ => ⟨v, H, I3, rw', at_once rs q rv⟩) hs
    · cases e'
  | _ => exact nomatch e
/-- an expression that is no slice -/
def noSlice : Expr → Bool
  | .Slice _ _ _ _ => false
  | _ => true
theorem plain_of {b : Expr} (h : noSlice b = true) : PlainIx b := by
  cases b <;> first | exact fun _ _ => rfl | cases h
theorem f_idx {f1 f2 : E D} (hu : X.A.units + 65 < cLine) (ha : PE X a (xE (rc X fa) W f1)) (hb : PE X b (xE (rc X fa) W f2)) (hs : noSlice b = true) : PE X (.Subscript a b pos) (xE (rc X fa) W (eOp2 idxD f1 f2)) :=
  impE (pe_ix (ix_J hu) ha hb (plain_of hs)) fun s H Q h => op2_in h

/-! ### o[lo:hi] -/
def cutD (xs : List D) (lo hi : Option Int) : List D := (xs.drop (HT.sIx xs.length 0 lo)).take (HT.sIx xs.length xs.length hi - HT.sIx xs.length 0 lo)
def slcD (x : D) (lo hi : Option Int) (S : Sto) : Option (D × Sto) := match x with
  | .tup xs => mkTup (cutD xs lo hi) S
  | .scr xs => mkLst (cutD xs lo hi) S
  | .str z => if z.length ≤ LINE then some (.str (cutS z lo hi), S) else none
  | .loc l => match lstAt S l with
    | some xs => mkLst (cutD xs lo hi) S
    | none => none
  | _ => none
theorem getItem_tuple_all {prog : Program} {w : World} {A : Around} {E0 : Value → Shared → Prop} {s : Shared} {t sl : Addr} {items : Array Value} {vl vu : Value} {lo hi : Option Int} {Q : Value → Shared → Prop} (ht : IsTup s.heap t items) (hs : s.heap.IsSliceOf sl vl vu .none) (pl : IsPart vl lo) (pu : IsPart vu hi)
    (hw : HT.sIx items.size 0 lo = 0 ∧ HT.sIx items.size items.size hi = items.size) (h : Q (.ref t) s) : wpAny (model prog w) A (getItem (.ref t) (.ref sl)) Q E0 s := by
  obtain ⟨os, hos, hcs, hds⟩ := id hs
  have hTs : s.TypeIs (.ref sl) "slice" := ⟨os, hos, hcs⟩
  unfold getItem
  try with_reducible refine wpAny_holding ?_
  first | refine wpAny_bind (wpAny_pure ?_) | skip
  refine wpAny_bind (wpAny_sequenceKey ht.typeIs (by decide) ?_)
  refine wpAny_bind (wpAny_callSpecial?_slot (name := Str.ofString "__getitem__") ht.typeIs PyProof.Rows.slot_tuple_getitem
    (wpAny_call_entry PyProof.Rows.slot_tuple_getitem ht.typeIs entry_tuple_getitem ?_ (args_tuple_getitem _ _)))
  show wpAny _ _ (Builtin.Tuple.tupleItemsOf (.ref t) >>= _) _ _ s
  refine wpAny_bind (tupleItemsOf_ ht ?_)
  refine wpAny_bind (wpAny_typeOf hTs ?_)
  rw [if_pos (by decide)]
  refine wpAny_bind (HT.sliceApplied_gen hs pl pu ?_)
  have hyes : (((HT.sIx items.size 0 lo : Nat) : Int) == 0 && (1 : Int) == 1 && (HT.sIx items.size items.size hi - HT.sIx items.size 0 lo) == items.size) = true := by
    rw [hw.1, hw.2]
    simp
  show wpAny _ _ (if (((HT.sIx items.size 0 lo : Nat) : Int) == 0 && (1 : Int) == 1 && (HT.sIx items.size items.size hi - HT.sIx items.size 0 lo) == items.size) = true then _ else _) _ _ s
  rw [if_pos hyes]
  unfold Builtin.Tuple.tupleIsExact
  refine wpAny_bind (wpAny_bind (wpAny_typeOf ht.typeIs (wpAny_pure ?_)))
  rw [if_pos (by decide)]
  refine wpAny_bind (wpAny_rule ?_)
  exact wpAny_bind (wpAny_pure (wpAny_pure ⟨_, rfl, wpAny_pure h⟩))
theorem RVs.cut {R : RC} {p : List Addr} {H : Hp} {ds : List D} {vs : List V} (r : RVs R p H ds vs) (lo hi : Option Int) : RVs R p H (cutD ds lo hi) (cutV vs lo hi) := by
  unfold cutD cutV
  rw [r.length]
  exact (r.drop _).take _
def x1s (R : RC) (g : D → Option Int → Option Int → Sto → Option (D × Sto)) : V → Option Int → Option Int → Hp → VK → Prop := fun x lo hi H Q => ∃ p S d1 d S', RS R p S H ∧ RV R p H d1 x ∧ g d1 lo hi S = some (d, S') ∧ ∀ p' H', p <+: p' → Tm p H p' H' → RS R p' S' H' → ∀ v, RV R p' H' d v → Q v H'
theorem sl_J : SlR X (x1s (rc X fa) slcD) := by
  intro pins s σ H x v vl vu lo hi sl Q I rx hs pl pu ⟨p, S, d1, d, S', rs, r1, e, q⟩
  cases r1 with
  | @tup a xs ds s1 v1 =>
    have e' : mkTup (cutD ds lo hi) S = some (d, S') := e
    by_cases hw : HT.sIx xs.length 0 lo = 0 ∧ HT.sIx xs.length xs.length hi = xs.length
    · cases rx
      obtain ⟨its, r, ht, hz⟩ := I.tuple s1.sq
      have hlen : its.toArray.size = xs.length := by rw [List.size_toArray]; exact r.length.symm
      refine ⟨"tuple", _, PyProof.Rows.slot_tuple_getitem.lookup, ht.typeIs, ?_⟩
      refine getItem_tuple_all ht hs pl pu (by rw [hlen]; exact hw) ⟨.ref a, H, I, rfl, ?_⟩
      have e2 : (d, S') = (D.tup ds, S) := by
        have hc : cutD ds lo hi = ds := by
          unfold cutD
          rw [v1.length, hw.1, hw.2, List.drop_zero, Nat.sub_zero, ← v1.length, List.take_length]
        rw [hc] at e'
        unfold mkTup at e'
        split at e'
        · cases e'; rfl
        · cases e'
      cases e2
      exact at_once rs q (.tup s1 v1)
    · obtain ⟨hz, hq⟩ := new_tup rs (v1.cut lo hi) e' q
      exact sl_tup pins s σ H _ v vl vu lo hi sl Q I rx hs pl pu ⟨a, xs, rfl, s1.sq, hw, hq⟩
  | @scr a xs ds s1 v1 =>
    have e' : mkLst (cutD ds lo hi) S = some (d, S') := e
    obtain ⟨hz, hq⟩ := new_list rs (v1.cut lo hi) e' q
    exact sl_list pins s σ H _ v vl vu lo hi sl Q I rx hs pl pu ⟨a, xs, rfl, s1.sq, hq⟩
  | str z =>
    have e' : (if z.length ≤ LINE then some (D.str (cutS z lo hi), S) else none) = some (d, S') := e
    split at e'
    · rename_i hl
      cases e'
      exact sl_str pins s σ H _ v vl vu lo hi sl Q I rx hs pl pu ⟨z, rfl, by rw [line_eq]; exact hl, at_once rs q (.str _)⟩
    · cases e'
  | @loc l a h =>
    have e' : (match lstAt S l with | some xs => mkLst (cutD xs lo hi) S | none => none) = some (d, S') := e
    split at e'
    · rename_i ds e3
      obtain ⟨vs, g1, g2⟩ := rs.list h e3
      obtain ⟨hz, hq⟩ := new_list rs (g2.cut lo hi) e' q
      exact sl_list pins s σ H _ v vl vu lo hi sl Q I rx hs pl pu ⟨a, vs, rfl, .of g1, hq⟩
    · cases e'
  | _ => exact nomatch e
/-- a part of a slice -/
def asInt (d : D) : E (Option Int) := fun _ S => match d with
  | .int i => .ok (some i) S
  | _ => .bad
def ePart (f : Option (E D)) : E (Option Int) := match f with
  | none => fun _ S => .ok none S
  | some f => eBnd f asInt
def eSlc (f : E D) (lo hi : Option (E D)) : E D := eBnd f fun d => eBnd (ePart lo) fun l => eBnd (ePart hi) fun h _ S => lft (slcD d l h S)
def xO (R : RC) (W : WX) (f : E (Option Int)) : TO := fun s H Q => ∃ p n S, RS R p S H ∧ RE R p n s H ∧ Aft R p H (f n S) (fun o p' S' H' => Q o H') (fun c dd H' => W c dd s H')
theorem impO {e : Option Expr} {t t' : TO} (h : PO X e t) (m : ∀ s H Q, t' s H Q → t s H Q) : PO X e t' := ⟨fun pins s σ H Q I hw => h.run pins s σ H Q I (m _ _ _ hw)⟩
theorem o_none : PO X none (xO (rc X fa) W (ePart none)) := impO po_none fun s H Q ⟨p, n, S, rs, re, h⟩ => aft_ok rs h
theorem o_some {f : E D} (h : PE X e (xE (rc X fa) W f)) : PO X (some e) (xO (rc X fa) W (ePart (some f))) := impO (po_some h) fun s H Q ⟨p, n, S, rs, re, h⟩ => xE_of (g := asInt) rs re h fun d p1 S1 H1 v rs1 re1 hp t rv h1 => by
  cases rv with
  | int i => exact ⟨i, rfl, aft_ok rs1 h1⟩
  | _ => exact h1.elim
theorem xO_of {R : RC} {B : Type} {f : E (Option Int)} {g : Option Int → E B} {s : L2.St} {H : Hp} {QB : B → List Addr → Sto → Hp → Prop} {p : List Addr} {n : En} {S : Sto} {Q : Option Int → Hp → Prop}
    (rs : RS R p S H) (re : RE R p n s H) (h : Aft R p H (eBnd f g n S) QB (fun c dd H' => W c dd s H'))
    (m : ∀ b p1 S1 H1, RS R p1 S1 H1 → RE R p1 n s H1 → p <+: p1 → Tm p H p1 H1 → Aft R p1 H1 (g b n S1) QB (fun c dd H' => W c dd s H') → Q b H1) : xO R W f s H Q :=
  ⟨p, n, S, rs, re, (Aft.bind h).imp (fun b p1 S1 H1 hp t rs1 h1 => m b p1 S1 H1 rs1 (re.mono hp t) hp t h1) fun _ _ _ w => w⟩
theorem f_slc {f : E D} {lo hi : Option Expr} {fl fh : Option (E D)} {p2 : Pos} (ha : PE X a (xE (rc X fa) W f)) (hl : PO X lo (xO (rc X fa) W (ePart fl))) (hh : PO X hi (xO (rc X fa) W (ePart fh))) :
    PE X (.Subscript a (.Slice lo hi none p2) pos) (xE (rc X fa) W (eSlc f fl fh)) :=
  impE (pe_slice sl_J ha hl hh) fun s H Q ⟨p, n, S, rs, re, h⟩ => xE_of rs re h fun d p1 S1 H1 v rs1 re1 hp t rv h1 => xO_of rs1 re1 h1 fun l p2 S2 H2 rs2 re2 hp2 t2 h2 =>
    xO_of rs2 re2 h2 fun u p3 S3 H3 rs3 re3 hp3 t3 h3 => by
      obtain ⟨d4, S4, e4, h4⟩ := aft_lft h3
      exact ⟨p3, S3, d, d4, S4, rs3, (rv.mono hp2 t2).mono hp3 t3, e4, h4⟩
end
end Jm

set_option Elab.async false
set_option linter.all false
set_option maxRecDepth 100000
set_option maxHeartbeats 4000000
/-! Jm, part F: o[::-1], built-ins by values. -/
namespace Jm
open PySem PySem.Spec PyProof.Rows L2

/-! ### o[::-1] -/
section
variable {prog : Program} {w : World} {A : Around} {E0 : Value → Shared → Prop} {s : Shared}
theorem slicePlaces_rev (n : Nat) : Builtin.Slice.slicePlaces ((n : Int) - 1) (-1) (-1) = n := by
  unfold Builtin.Slice.slicePlaces
  have h1 : ¬ ((-1 : Int) > 0) := by omega
  simp only [h1, if_false]
  by_cases h : n = 0
  · subst h
    rfl
  · have h2 : (n : Int) - 1 > -1 := by omega
    simp only [h2, if_true, Int.neg_neg, Int.ediv_one]
    omega
theorem sliceApplied_rev {sl : Addr} {vs : Value} {n : Nat} {Q : Int × Int × Nat → Shared → Prop} (hs : s.heap.IsSliceOf sl .none .none vs) (ps : IsPart vs (some (-1)))
    (h : Q (((n : Int) - 1), -1, n) s) : wpAny (model prog w) A (Builtin.Slice.sliceApplied (.ref sl) (pure (n : Int))) Q E0 s := by
  obtain ⟨os, hos, hcs, hds⟩ := id hs
  unfold Builtin.Slice.sliceApplied Builtin.Slice.sliceFields
  refine wpAny_bind (wpAny_bind (wpAny_field hos hds (x := .none) rfl (wpAny_bind (wpAny_field hos hds (x := .none) rfl (wpAny_bind (wpAny_field hos hds (x := vs) rfl (wpAny_pure ?_)))))))
  refine wpAny_bind (HT.slicePart_ ps ?_)
  show wpAny _ _ (if ((-1 : Int) == 0) = true then _ else _) _ _ s
  rw [if_neg (by decide)]
  refine wpAny_bind (slicePart_none (wpAny_bind (slicePart_none (wpAny_bind (wpAny_pure ?_)))))
  show wpAny _ _ (pure (((n : Int) - 1), (-1 : Int), Builtin.Slice.slicePlaces ((n : Int) - 1) (-1) (-1))) _ _ s
  rw [slicePlaces_rev]
  exact wpAny_pure h
theorem fm_congr {A B : Type} {f g : A → Option B} : ∀ {l : List A}, (∀ x ∈ l, f x = g x) → l.filterMap f = l.filterMap g
  | [], _ => rfl
  | a :: l, h => by
    rw [List.filterMap_cons, List.filterMap_cons, h a List.mem_cons_self, fm_congr fun x hx => h x (List.mem_cons_of_mem _ hx)]
theorem pick_rev (xs : Array Value) : ((List.range xs.size).filterMap fun (m : Nat) => xs[(((xs.size : Int) - 1) + (m : Int) * (-1)).toNat]?).toArray = xs.toList.reverse.toArray := by
  have e : ((List.range xs.size).filterMap fun (m : Nat) => xs[(((xs.size : Int) - 1) + (m : Int) * (-1)).toNat]?) = ((List.range xs.size).map fun k => xs.size - 1 - k).filterMap (xs[·]?) := by
    rw [List.filterMap_map]
    refine fm_congr fun m hm => ?_
    have hm' := List.mem_range.mp hm
    have : (((xs.size : Int) - 1) + (m : Int) * (-1)).toNat = xs.size - 1 - m := by omega
    show _ = xs[xs.size - 1 - m]?
    rw [this]
  rw [e, PySem.W.krv_range, List.filterMap_reverse, PySem.W.krv_all]
theorem getItem_tuple_rev {t sl : Addr} {items : Array Value} {vs : Value} {Q : Value → Shared → Prop} (ht : IsTup s.heap t items) (hs : s.heap.IsSliceOf sl .none .none vs) (ps : IsPart vs (some (-1)))
    (h : Q (.ref s.heap.objs.size) { s with heap := s.heap.push { cls := .type "tuple", data := .seq items.toList.reverse.toArray } })
    (hsz : items.size ≤ sizeLine) : wpAny (model prog w) A (getItem (.ref t) (.ref sl)) Q E0 s := by
  have htake : sizeOk (.seq items.toList.reverse.toArray) := by
    show items.toList.reverse.toArray.size ≤ sizeLine
    rw [List.size_toArray, List.length_reverse, Array.length_toList]
    omega
  obtain ⟨os, hos, hcs, hds⟩ := id hs
  have hTs : s.TypeIs (.ref sl) "slice" := ⟨os, hos, hcs⟩
  unfold getItem
  try with_reducible refine wpAny_holding ?_
  first | refine wpAny_bind (wpAny_pure ?_) | skip
  refine wpAny_bind (wpAny_sequenceKey ht.typeIs (by decide) ?_)
  refine wpAny_bind (wpAny_callSpecial?_slot (name := Str.ofString "__getitem__") ht.typeIs PyProof.Rows.slot_tuple_getitem
    (wpAny_call_entry PyProof.Rows.slot_tuple_getitem ht.typeIs entry_tuple_getitem ?_ (args_tuple_getitem _ _)))
  show wpAny _ _ (Builtin.Tuple.tupleItemsOf (.ref t) >>= _) _ _ s
  refine wpAny_bind (tupleItemsOf_ ht ?_)
  refine wpAny_bind (wpAny_typeOf hTs ?_)
  rw [if_pos (by decide)]
  refine wpAny_bind (sliceApplied_rev hs ps ?_)
  have hno : ¬ ((((items.size : Int) - 1) == 0 && (-1 : Int) == 1 && items.size == items.size) = true) := by
    intro q
    rw [Bool.and_eq_true, Bool.and_eq_true] at q
    exact absurd q.1.2 (by decide)
  show wpAny _ _ (if (((items.size : Int) - 1) == 0 && (-1 : Int) == 1 && items.size == items.size) = true then _ else _) _ _ s
  rw [if_neg hno, pick_rev]
  first
    | exact wpAny_bind (m := Builtin.Tuple.tupleExact _) (wpAny_newObj_type (wpAny_pure ⟨_, rfl, wpAny_pure h⟩) htake)
    | exact wpAny_bind (m := Builtin.Tuple.tupleExact _) (wpAny_newObj_type (wpAny_bind (wpAny_pure (wpAny_pure ⟨_, rfl, wpAny_pure h⟩))) htake)
    | exact wpAny_bind (wpAny_bind (m := Builtin.Tuple.tupleExact _) (wpAny_newObj_type (wpAny_pure (wpAny_pure ⟨_, rfl, wpAny_pure h⟩)) htake))
    | exact wpAny_bind (wpAny_bind (m := Builtin.Tuple.tupleExact _) (wpAny_newObj_type (wpAny_pure ⟨_, rfl, wpAny_pure h⟩) htake))
end
section
variable {X : Cx} {fa : Gl0} {W : WX} {e a b : Expr} {es : List Expr} {pos : Pos}
def revD (x : D) (S : Sto) : Option (D × Sto) := match x with
  | .tup xs => mkTup xs.reverse S
  | .scr xs => mkLst xs.reverse S
  | .loc l => match lstAt S l with
    | some xs => mkLst xs.reverse S
    | none => none
  | _ => none
theorem revD_cases {x d : D} {S S' : Sto} (h : revD x S = some (d, S')) : (∃ xs, x = .tup xs ∧ mkTup xs.reverse S = some (d, S')) ∨ (∃ xs, x = .scr xs ∧ mkLst xs.reverse S = some (d, S')) ∨ ∃ l xs, x = .loc l ∧ lstAt S l = some xs ∧ mkLst xs.reverse S = some (d, S') := by
  cases x with
  | tup xs => exact .inl ⟨xs, rfl, h⟩
  | scr xs => exact .inr (.inl ⟨xs, rfl, h⟩)
  | loc l =>
    have h' : (match lstAt S l with | some xs => mkLst xs.reverse S | none => none) = some (d, S') := h
    cases e : lstAt S l with
    | none => rw [e] at h'; cases h'
    | some xs => rw [e] at h'; exact .inr (.inr ⟨l, xs, rfl, e, h'⟩)
  | _ => exact nomatch h
/-- the expression -1 -/
def isM1 : Expr → Bool
  | .UnaryOp .USub (.Constant (.int 1) _ _) _ => true
  | _ => false
theorem m1_pe {st : Expr} (h : isM1 st = true) : PE X st (tC (.int (-1))) := by
  unfold isM1 at h
  split at h
  · exact impE (pe_un un_neg pe_int) fun s H Q h => ⟨1, rfl, h⟩
  · cases h
theorem f_rev {f : E D} {st : Expr} {p2 : Pos} (hst : isM1 st = true) (ha : PE X a (xE (rc X fa) W f)) : PE X (.Subscript a (.Slice none none (some st) p2) pos) (xE (rc X fa) W (eOp1 revD f)) := by
  refine ⟨fun pins s σ H Q I ⟨p, n, S, rs, re, h⟩ => ?_⟩
  refine Subscript_ (thn (ha.run pins s σ H (fun x H1 => x1 (rc X fa) revD x H1 Q) I (xE_of rs re h fun d p1 S1 H1 v rs1 re1 hp t rv h1 => ?_)) fun v s1 ⟨x, H1, I1, r1, p1, S1, d1, d, S', rs1, rv1, e, q⟩ => ?_)
  · obtain ⟨d3, S3, e3, h3⟩ := aft_lft h1
    exact ⟨p1, S1, d, d3, S3, rs1, rv, e3, h3⟩
  refine wpAny_Slice ?_
  rw [evalPart_none]
  refine wpAny_pure (wpAny_pure ?_)
  show wpAny _ _ (eval st X.env) _ _ s1
  refine thn ((m1_pe hst).run pins s1 σ H1 (fun y H2 => y = .int (-1) ∧ H2 = H1) I1 ⟨rfl, rfl⟩) fun vs s2 ⟨y, H2, I2, r2, ey, eH⟩ => ?_
  subst ey eH
  obtain ⟨t, rfl⟩ := r2
  have I4 : Inv X pins σ H2 { s2 with heap := s2.heap.push { cls := .type "slice", data := .fields #[.none, .none, .int (-1) t] } } := I2.kept (t' := s2.toks) fun b ob q => Heap.get?_push_of_some _ q
  show wpAny (model X.prog X.w) X.A (subscriptTail a (.Slice none none (some st) p2) v (.ref s2.heap.objs.size)) (EP X pins σ Q) X.xe { s2 with heap := s2.heap.push { cls := .type "slice", data := .fields #[.none, .none, .int (-1) t] } }
  rcases revD_cases e with ⟨ds, rfl, e'⟩ | ⟨ds, rfl, e'⟩ | ⟨l, ds, rfl, el, e'⟩
  · cases rv1 with
    | @tup ad xs _ s1' v1 =>
      cases r1
      obtain ⟨hz, hq⟩ := new_tup rs1 v1.rev e' q
      obtain ⟨its, r, ht, hz2⟩ := I4.tuple s1'.sq
      refine tail_any (ops := [.ref ad, .ref s2.heap.objs.size]) ht.typeIs PyProof.Rows.slot_tuple_getitem.lookup (getItem_tuple_rev ht (Heap.IsSliceOf.new ..) (.int _ _) ?_ (by rw [List.size_toArray, ← r.length]; exact hz2)) (by with_unfolding_all rfl)
      refine ⟨.ref _, _, I4.laid (t' := s2.toks) (o := .tup xs.reverse) (fun b ob q => Heap.get?_push_of_some _ q) (Nat.le_refl _) ?_, rfl, hq _ (I4.hok.fresh (Nat.le_refl _))⟩
      exact ⟨hz, _, by simpa using L2.Vals.reverse r, IsTup.new _ _⟩
  · cases rv1 with
    | @scr ad xs _ s1' v1 =>
      cases r1
      obtain ⟨hz, hq⟩ := new_list rs1 v1.rev e' q
      obtain ⟨its, r, pl, hz2⟩ := I4.list s1'.sq
      refine tail_any (ops := [.ref ad, .ref s2.heap.objs.size]) pl.isList.typeIs slot_list_getitem.lookup (wpAny_getItem_list_slice pl.isList (Heap.IsSliceOf.new ..) .none .none (.int _ _) (by decide) ?_ (by rw [List.size_toArray, ← r.length]; exact hz2)) (by with_unfolding_all rfl)
      rw [PySem.W.krv_pick]
      refine ⟨.ref _, _, I4.laid (t' := s2.toks) (o := .lst xs.reverse) (fun b ob q => Heap.get?_push_of_some _ q) (Nat.le_refl _) ?_, rfl, hq _ (I4.hok.fresh (Nat.le_refl _))⟩
      exact ⟨hz, _, 0, by simpa using L2.Vals.reverse r, Heap.get?_push_size _ rfl⟩
  · cases rv1 with
    | @loc _ ad h0 =>
      cases r1
      obtain ⟨vs, g1, g2⟩ := rs1.list h0 el
      obtain ⟨hz, hq⟩ := new_list rs1 g2.rev e' q
      obtain ⟨its, r, pl, hz2⟩ := I4.list (.of g1)
      refine tail_any (ops := [.ref ad, .ref s2.heap.objs.size]) pl.isList.typeIs slot_list_getitem.lookup (wpAny_getItem_list_slice pl.isList (Heap.IsSliceOf.new ..) .none .none (.int _ _) (by decide) ?_ (by rw [List.size_toArray, ← r.length]; exact hz2)) (by with_unfolding_all rfl)
      rw [PySem.W.krv_pick]
      refine ⟨.ref _, _, I4.laid (t' := s2.toks) (o := .lst vs.reverse) (fun b ob q => Heap.get?_push_of_some _ q) (Nat.le_refl _) ?_, rfl, hq _ (I4.hok.fresh (Nat.le_refl _))⟩
      exact ⟨hz, _, 0, by simpa using L2.Vals.reverse r, Heap.get?_push_size _ rfl⟩
end
end Jm

set_option Elab.async false
set_option linter.all false
set_option maxRecDepth 100000
set_option maxHeartbeats 4000000
/-! Jm, part G: built-in functions and types by values. -/
noncomputable section
namespace Jm
open PySem PySem.Spec PyProof.Rows L2

abbrev Prim := List D → Sto → Option (D × Sto)
/-- the items of a list or tuple -/
def seqOf (x : D) (S : Sto) : Option (List D) := match x with
  | .tup xs => some xs
  | .scr xs => some xs
  | .loc l => lstAt S l
  | _ => none
def asInts (xs : List D) : Option (List Int) := allSome (xs.map fun d => match d with
  | .int i => some i
  | _ => none)
def asBls (xs : List D) : Option (List Bool) := allSome (xs.map fun d => match d with
  | .bl i => some i
  | _ => none)
section
variable {X : Cx} {fa : Gl0}
theorem seqOf_ok {p : List Addr} {S : Sto} {H : Hp} {d : D} {v : V} {ds : List D} (rs : RS (rc X fa) p S H) (r : RV (rc X fa) p H d v) (h : seqOf d S = some ds) : ∃ a vs, v = .ref a ∧ (SqL X.K H a vs ∨ SqT X.K H a vs) ∧ RVs (rc X fa) p H ds vs := by
  cases r with
  | tup s q => cases h; exact ⟨_, _, rfl, .inr s.sq, q⟩
  | scr s q => cases h; exact ⟨_, _, rfl, .inl s.sq, q⟩
  | loc e =>
    obtain ⟨vs, g1, g2⟩ := rs.list e h
    exact ⟨_, vs, rfl, .inl (.of g1), g2⟩
  | _ => exact nomatch h
theorem asInts_ok {R : RC} {p : List Addr} {H : Hp} : ∀ {ds : List D} {vs : List V} {ns : List Int}, RVs R p H ds vs → asInts ds = some ns → vs = ns.map V.int
  | _, _, _, .nil, h => by cases h; rfl
  | d :: ds, _, ns, .cons r rs, h => by
    obtain ⟨a, k, e1, e2, e3⟩ := allSome_cons h
    subst e3
    cases r with
    | int i => cases e1; rw [asInts_ok rs e2]; rfl
    | _ => exact nomatch e1
theorem asBls_ok {R : RC} {p : List Addr} {H : Hp} : ∀ {ds : List D} {vs : List V} {ns : List Bool}, RVs R p H ds vs → asBls ds = some ns → vs = ns.map V.bl
  | _, _, _, .nil, h => by cases h; rfl
  | d :: ds, _, ns, .cons r rs, h => by
    obtain ⟨a, k, e1, e2, e3⟩ := allSome_cons h
    subst e3
    cases r with
    | bl i => cases e1; rw [asBls_ok rs e2]; rfl
    | _ => exact nomatch e1

/-! ### len -/
def lenOf (x : D) (S : Sto) : Option Nat := match x with
  | .tup xs => some xs.length
  | .scr xs => some xs.length
  | .str x => if x.length ≤ LINE then some x.length else none
  | .loc l => match S[l]? with
    | some (.lst xs) => some xs.length
    | some (.dct xs) => some xs.length
    | some (.dcN xs) => some xs.length
    | some (.dctZ xs) => some xs.length
    | some (.dcNZ xs) => some xs.length
    | none => none
  | _ => none
def lenD : Prim := fun ds S => match ds with
  | [x] => (lenOf x S).map fun (n : Nat) => (D.int (n : Int), S)
  | _ => none
theorem map_some {A B : Type} {o : Option A} {f : A → B} {b : B} (h : o.map f = some b) : ∃ a, o = some a ∧ f a = b := by
  cases o with
  | none => cases h
  | some a => exact ⟨a, rfl, Option.some.inj h⟩
theorem paired_length {A B : Type} {F : A → B → Prop} : ∀ {l : List A} {k : List B}, Paired F l k → l.length = k.length
  | _, _, .nil => rfl
  | _, _, .cons _ t => congrArg (· + 1) (paired_length t)
theorem call_lenJ : CallR X (.builtin "len") (xN (rc X fa) lenD) := by
  intro pins s σ H xs us Q I rr ⟨p, S, ds, d, S', rs, rv, e, q⟩
  cases rv with
  | nil => exact nomatch e
  | cons r1 r2 =>
    cases r2 with
    | cons _ _ => exact nomatch e
    | nil =>
      obtain ⟨n, en, e2⟩ := map_some e
      cases e2
      cases r1 with
      | tup s' v1 => cases en; exact call_len pins s σ H _ us Q I rr ⟨_, _, rfl, .inr ⟨_, s'.sq, rfl⟩, by rw [← v1.length]; exact at_once rs q (.int _)⟩
      | scr s' v1 => cases en; exact call_len pins s σ H _ us Q I rr ⟨_, _, rfl, .inl ⟨_, s'.sq, rfl⟩, by rw [← v1.length]; exact at_once rs q (.int _)⟩
      | str x =>
        have en' : (if x.length ≤ LINE then some x.length else none) = some n := en
        split at en'
        · rename_i hl
          cases en'
          exact call_len pins s σ H _ us Q I rr ⟨_, _, rfl, ⟨by rw [line_eq]; exact hl, rfl⟩, at_once rs q (.int _)⟩
        · cases en'
      | @loc l a h =>
        have en' : (match S[l]? with | some (.lst xs) => some xs.length | some (.dct xs) => some xs.length | some (.dcN xs) => some xs.length | some (.dctZ xs) => some xs.length | some (.dcNZ xs) => some xs.length | none => none) = some n := en
        cases e3 : S[l]? with
        | none => rw [e3] at en'; cases en'
        | some o =>
          rw [e3] at en'
          have ro := rs.at_ l o a e3 h
          cases o with
          | lst ys =>
            obtain ⟨vs, g1, g2⟩ := ro
            cases en'
            exact call_len pins s σ H _ us Q I rr ⟨_, _, rfl, .inl ⟨vs, .of g1, rfl⟩, by rw [← g2.length]; exact at_once rs q (.int _)⟩
          | dct kvs =>
            obtain ⟨vs, g1, g2⟩ := ro
            cases en'
            exact call_lenD pins s σ H _ us Q I rr ⟨a, vs, rfl, g1, by rw [← paired_length g2]; exact at_once rs q (.int _)⟩
          | dctZ kvs =>
            obtain ⟨o, vs, g1, g2⟩ := ro
            cases en'
            obtain ⟨u, rfl, ru⟩ := vals1 rr
            obtain rfl : u = .ref a := ru
            obtain ⟨_, hsz, hsys, us, h3, h4⟩ := (show ObjOk X.prog X.w H s.heap a (.frz o (.dK vs)) from I.hok a _ g1)
            have hlu : us.length = kvs.length := by rw [← paired_length h3, ← paired_length g2]
            have hlv : vs.length = kvs.length := (paired_length g2).symm
            refine call_len_dict (kvs := us) hsys h4 (by rw [sizeLine_eq] at hsz; omega) ?_
            rw [hlu]
            exact ⟨.int kvs.length, H, (I.tok _).tok _, ⟨_, rfl⟩, at_once rs q (.int _)⟩
          | dcN kvs =>
            cases en'
            obtain ⟨u, rfl, ru⟩ := vals1 rr
            obtain rfl : u = .ref a := ru
            exact n_len I ro rfl fun t s' I' => ⟨.int kvs.length, H, I', ⟨t, rfl⟩, at_once rs q (.int _)⟩
          | dcNZ kvs =>
            cases en'
            obtain ⟨u, rfl, ru⟩ := vals1 rr
            obtain rfl : u = .ref a := ru
            exact n_len I ro rfl fun t s' I' => ⟨.int kvs.length, H, I', ⟨t, rfl⟩, at_once rs q (.int _)⟩
      | _ => exact nomatch en

/-! ### int, abs, max, min of two, divmod -/
def intD : Prim := fun ds S => match ds with
  | [.int i] => some (.int i, S)
  | [.bl b] => some (.int (if b then 1 else 0), S)
  | [.str x] => if x.length ≤ 640 then (PySem.intText? x).map fun n => (.int n, S) else none
  | _ => none
theorem call_intJ : CallR X (.type "int") (xN (rc X fa) intD) := by
  intro pins s σ H xs us Q I rr ⟨p, S, ds, d, S', rs, rv, e, q⟩
  cases rv with
  | nil => exact nomatch e
  | cons r1 r2 =>
    cases r2 with
    | cons _ _ => cases r1 <;> exact nomatch e
    | nil =>
      cases r1 with
      | int i => cases e; exact call_int1 pins s σ H _ us Q I rr (.inl ⟨i, rfl, at_once rs q (.int _)⟩)
      | bl b => cases e; exact call_int1 pins s σ H _ us Q I rr (.inr ⟨b, rfl, at_once rs q (.int _)⟩)
      | str x =>
        have e' : (if x.length ≤ 640 then (PySem.intText? x).map (fun n => (D.int n, S)) else none) = some (d, S') := e
        split at e'
        · rename_i hl
          obtain ⟨n, en, e2⟩ := map_some e'
          cases e2
          exact call_int_str pins s σ H _ us Q I rr ⟨x, n, rfl, en, hl, at_once rs q (.int _)⟩
        · cases e'
      | _ => exact nomatch e
def absD : Prim := fun ds S => match ds with
  | [.int i] => some (.int (if i < 0 then -i else i), S)
  | _ => none
theorem call_absJ : CallR X (.builtin "abs") (xN (rc X fa) absD) := by
  intro pins s σ H xs us Q I rr ⟨p, S, ds, d, S', rs, rv, e, q⟩
  cases rv with
  | nil => exact nomatch e
  | cons r1 r2 =>
    cases r2 with
    | cons _ _ => cases r1 <;> exact nomatch e
    | nil =>
      cases r1 with
      | int i => cases e; exact call_abs pins s σ H _ us Q I rr ⟨i, rfl, at_once rs q (.int _)⟩
      | _ => exact nomatch e
def divmodD : Prim := fun ds S => match ds with
  | [.int i, .int j] => if (decide (0 < j) && decide (j.toNat.log2 < 30)) = true then some (.tup [.int (i / j), .int (i % j)], S) else none
  | _ => none
theorem call_divmodJ : CallR X (.builtin "divmod") (xN (rc X fa) divmodD) := by
  intro pins s σ H xs us Q I rr ⟨p, S, ds, d, S', rs, rv, e, q⟩
  unfold divmodD at e
  split at e
  · split at e
    · rename_i i j hj
      have hj : 0 < j ∧ j < 1073741824 := by
        obtain ⟨h1, h2⟩ := Bool.and_eq_true_iff.mp hj
        have h1 := of_decide_eq_true h1
        have h2 := of_decide_eq_true h2
        have h3 : j.toNat < 2 ^ 30 := (Nat.log2_lt (by omega)).mp h2
        exact ⟨h1, by omega⟩
      cases e
      cases rv with
      | cons r1 r2 => cases r2 with
        | cons r2 r3 =>
          cases r3; cases r1; cases r2
          refine call_divmod pins s σ H _ us Q I rr ⟨i, j, rfl, hj, fun a ha => ?_⟩
          exact q p _ (List.prefix_refl _) (Tm.new ha) (rs.newT ha) _ (.tup (.inl ⟨rs.nin ha, .inl upd_same⟩) (.cons (.int _) (.cons (.int _) .nil)))
    · cases e
  · cases e
/-- the greatest, the least of some ints -/
def maxI : List Int → Int
  | [] => 0
  | [a] => a
  | a :: b :: r => if maxI (b :: r) > a then maxI (b :: r) else a
def minI : List Int → Int
  | [] => 0
  | [a] => a
  | a :: b :: r => if minI (b :: r) < a then minI (b :: r) else a
theorem maxI_mem : ∀ {l : List Int}, l ≠ [] → maxI l ∈ l ∧ ∀ y ∈ l, y ≤ maxI l
  | [], h => absurd rfl h
  | [a], _ => ⟨List.mem_cons_self, fun y hy => by
      have : y = a := by simpa using hy
      subst this
      exact Int.le_refl _⟩
  | a :: b :: r, _ => by
    obtain ⟨h1, h2⟩ := maxI_mem (l := b :: r) (by simp)
    show (if maxI (b :: r) > a then maxI (b :: r) else a) ∈ a :: b :: r ∧ ∀ y ∈ a :: b :: r, y ≤ (if maxI (b :: r) > a then maxI (b :: r) else a)
    split
    · rename_i h
      exact ⟨List.mem_cons_of_mem _ h1, fun y hy => by
        rcases List.mem_cons.mp hy with rfl | hy
        · omega
        · exact h2 y hy⟩
    · rename_i h
      exact ⟨List.mem_cons_self, fun y hy => by
        rcases List.mem_cons.mp hy with rfl | hy
        · omega
        · have := h2 y hy; omega⟩
theorem minI_mem : ∀ {l : List Int}, l ≠ [] → minI l ∈ l ∧ ∀ y ∈ l, minI l ≤ y
  | [], h => absurd rfl h
  | [a], _ => ⟨List.mem_cons_self, fun y hy => by
      have : y = a := by simpa using hy
      subst this
      exact Int.le_refl _⟩
  | a :: b :: r, _ => by
    obtain ⟨h1, h2⟩ := minI_mem (l := b :: r) (by simp)
    show (if minI (b :: r) < a then minI (b :: r) else a) ∈ a :: b :: r ∧ ∀ y ∈ a :: b :: r, (if minI (b :: r) < a then minI (b :: r) else a) ≤ y
    split
    · rename_i h
      exact ⟨List.mem_cons_of_mem _ h1, fun y hy => by
        rcases List.mem_cons.mp hy with rfl | hy
        · omega
        · exact h2 y hy⟩
    · rename_i h
      exact ⟨List.mem_cons_self, fun y hy => by
        rcases List.mem_cons.mp hy with rfl | hy
        · omega
        · have := h2 y hy; omega⟩
def aggD (f : List Int → Int) : Prim := fun ds S => match ds with
  | [.int i, .int j] => some (.int (f [i, j]), S)
  | [.loc l] => match lstAt S l with
    | some xs => match asInts xs with
      | some (n :: ns) => some (.int (f (n :: ns)), S)
      | _ => none
    | none => none
  | _ => none
theorem aggD_cases {f : List Int → Int} {ds : List D} {d : D} {S S' : Sto} (h : aggD f ds S = some (d, S')) : S' = S ∧ ((∃ i j, ds = [.int i, .int j] ∧ d = .int (f [i, j])) ∨ ∃ l xs n ns, ds = [.loc l] ∧ lstAt S l = some xs ∧ asInts xs = some (n :: ns) ∧ d = .int (f (n :: ns))) := by
  unfold aggD at h
  split at h
  · cases h; exact ⟨rfl, .inl ⟨_, _, rfl, rfl⟩⟩
  · split at h
    · split at h
      · cases h; exact ⟨rfl, .inr ⟨_, _, _, _, rfl, by assumption, by assumption, rfl⟩⟩
      · cases h
    · cases h
  · cases h
theorem call_maxJ (hc : X.calm = true) : CallR X (.builtin "max") (xN (rc X fa) (aggD maxI)) := by
  intro pins s σ H xs us Q I rr ⟨p, S, ds, d, S', rs, rv, e, q⟩
  obtain ⟨rfl, ⟨i, j, rfl, rfl⟩ | ⟨l, ys, n, ns, rfl, e1, e2, rfl⟩⟩ := aggD_cases e
  · cases rv with
    | cons r1 r2 => cases r2 with
      | cons r2 r3 =>
        cases r3; cases r1; cases r2
        exact call_max2 hc pins s σ H _ us Q I rr ⟨i, j, rfl, at_once rs q (.int _)⟩
  · cases rv with
    | cons r1 r2 =>
      cases r2
      cases r1 with
      | loc h =>
        obtain ⟨vs, g1, g2⟩ := rs.list h e1
        have g3 := asInts_ok g2 e2
        subst g3
        refine cr_max hc pins s σ H _ us Q I rr ⟨_, n :: ns, rfl, .of g1, by simp, fun m hm hle => ?_⟩
        obtain ⟨h1, h2⟩ := maxI_mem (l := n :: ns) (by simp)
        have em : m = maxI (n :: ns) := Int.le_antisymm (h2 m hm) (hle _ h1)
        rw [em]
        exact at_once rs q (.int _)
theorem call_minJ (hc : X.calm = true) : CallR X (.builtin "min") (xN (rc X fa) (aggD minI)) := by
  intro pins s σ H xs us Q I rr ⟨p, S, ds, d, S', rs, rv, e, q⟩
  obtain ⟨rfl, ⟨i, j, rfl, rfl⟩ | ⟨l, ys, n, ns, rfl, e1, e2, rfl⟩⟩ := aggD_cases e
  · cases rv with
    | cons r1 r2 => cases r2 with
      | cons r2 r3 =>
        cases r3; cases r1; cases r2
        exact call_min2 hc pins s σ H _ us Q I rr ⟨i, j, rfl, at_once rs q (.int _)⟩
  · cases rv with
    | cons r1 r2 =>
      cases r2
      cases r1 with
      | loc h =>
        obtain ⟨vs, g1, g2⟩ := rs.list h e1
        have g3 := asInts_ok g2 e2
        subst g3
        refine cr_min hc pins s σ H _ us Q I rr ⟨_, n :: ns, rfl, .of g1, by simp, fun m hm hle => ?_⟩
        obtain ⟨h1, h2⟩ := minI_mem (l := n :: ns) (by simp)
        have em : m = minI (n :: ns) := Int.le_antisymm (hle _ h1) (h2 m hm)
        rw [em]
        exact at_once rs q (.int _)

/-! ### sum, all, any of a list -/
def sumD : Prim := fun ds S => match ds with
  | [.loc l] => match lstAt S l with
    | some xs => (asInts xs).map fun ns => (.int ns.sum, S)
    | none => none
  | _ => none
def quanD (f : List Bool → Bool) : Prim := fun ds S => match ds with
  | [.loc l] => match lstAt S l with
    | some xs => (asBls xs).map fun ns => (.bl (f ns), S)
    | none => none
  | _ => none
theorem call_sumJ (hc : X.calm = true) : CallR X (.builtin "sum") (xN (rc X fa) sumD) := by
  intro pins s σ H xs us Q I rr ⟨p, S, ds, d, S', rs, rv, e, q⟩
  unfold sumD at e
  split at e
  · split at e
    · rename_i ys e1
      obtain ⟨ns, e2, e3⟩ := map_some e
      cases e3
      cases rv with
      | cons r1 r2 =>
        cases r2
        cases r1 with
        | loc h =>
          obtain ⟨vs, g1, g2⟩ := rs.list h e1
          have g3 := asInts_ok g2 e2
          subst g3
          exact cr_sum hc pins s σ H _ us Q I rr ⟨_, ns, rfl, .of g1, at_once rs q (.int _)⟩
    · cases e
  · cases e
theorem call_allJ (hc : X.calm = true) : CallR X (.builtin "all") (xN (rc X fa) (quanD fun bs => bs.all id)) := by
  intro pins s σ H xs us Q I rr ⟨p, S, ds, d, S', rs, rv, e, q⟩
  unfold quanD at e
  split at e
  · split at e
    · rename_i ys e1
      obtain ⟨ns, e2, e3⟩ := map_some e
      cases e3
      cases rv with
      | cons r1 r2 =>
        cases r2
        cases r1 with
        | loc h =>
          obtain ⟨vs, g1, g2⟩ := rs.list h e1
          have g3 := asBls_ok g2 e2
          subst g3
          exact cr_all hc pins s σ H _ us Q I rr ⟨_, ns, rfl, .of g1, at_once rs q (.bl _)⟩
    · cases e
  · cases e
theorem call_anyJ (hc : X.calm = true) : CallR X (.builtin "any") (xN (rc X fa) (quanD fun bs => bs.any id)) := by
  intro pins s σ H xs us Q I rr ⟨p, S, ds, d, S', rs, rv, e, q⟩
  unfold quanD at e
  split at e
  · split at e
    · rename_i ys e1
      obtain ⟨ns, e2, e3⟩ := map_some e
      cases e3
      cases rv with
      | cons r1 r2 =>
        cases r2
        cases r1 with
        | loc h =>
          obtain ⟨vs, g1, g2⟩ := rs.list h e1
          have g3 := asBls_ok g2 e2
          subst g3
          exact cr_any hc pins s σ H _ us Q I rr ⟨_, ns, rfl, .of g1, at_once rs q (.bl _)⟩
    · cases e
  · cases e

/-! ### tuple(x), list(x) -/
def tupleD : Prim := fun ds S => match ds with
  | [.tup xs] => some (.tup xs, S)
  | [.scr xs] => mkTup xs S
  | [.loc l] => match lstAt S l with
    | some xs => mkTup xs S
    | none => none
  | _ => none
def listD : Prim := fun ds S => match ds with
  | [x] => match seqOf x S with
    | some xs => mkLst xs S
    | none => none
  | _ => none
theorem call_tupleJ : CallR X (.type "tuple") (xN (rc X fa) tupleD) := by
  intro pins s σ H xs us Q I rr ⟨p, S, ds, d, S', rs, rv, e, q⟩
  unfold tupleD at e
  split at e
  · cases e
    cases rv with
    | cons r1 r2 =>
      cases r2
      cases r1 with
      | tup s1 v1 => exact call_tuple_of pins s σ H _ us Q I rr ⟨_, _, rfl, .inr ⟨s1.sq, at_once rs q (.tup s1 v1)⟩⟩
  · cases rv with
    | cons r1 r2 =>
      cases r2
      cases r1 with
      | scr s1 v1 => exact call_tuple_of pins s σ H _ us Q I rr ⟨_, _, rfl, .inl ⟨s1.sq, (new_tup rs v1 e q).2⟩⟩
  · split at e
    · rename_i ys e1
      cases rv with
      | cons r1 r2 =>
        cases r2
        cases r1 with
        | loc h =>
          obtain ⟨vs, g1, g2⟩ := rs.list h e1
          exact call_tuple_of pins s σ H _ us Q I rr ⟨_, _, rfl, .inl ⟨.of g1, (new_tup rs g2 e q).2⟩⟩
    · cases e
  · cases e
theorem call_listJ : CallR X (.type "list") (xN (rc X fa) listD) := by
  intro pins s σ H xs us Q I rr ⟨p, S, ds, d, S', rs, rv, e, q⟩
  unfold listD at e
  split at e
  · split at e
    · rename_i ys e1
      cases rv with
      | cons r1 r2 =>
        cases r2
        obtain ⟨a, vs, rfl, h, g⟩ := seqOf_ok rs r1 e1
        exact call_list_of pins s σ H _ us Q I rr ⟨a, vs, rfl, h, (new_list rs g e q).2⟩
    · cases e
  · cases e
end
end Jm

set_option Elab.async false
set_option linter.all false
set_option maxRecDepth 100000
set_option maxHeartbeats 4000000
/-! Jm, part H: isinstance. -/
noncomputable section
namespace Jm
open PySem PySem.Spec PyProof.Rows L2
def tyOf (x : D) (S : Sto) : Option Tn := match x with
  | .non => some .none
  | .bl _ => some .bool
  | .int _ => some .int
  | .str _ => some .str
  | .tup _ => some .tuple
  | .scr _ => some .list
  | .loc l => match S[l]? with
    | some (.lst _) => some .list
    | some (.dct _) => some .dict
    | some (.dctZ _) => some .dict
    | _ => none
  | _ => none
def okT : Tn → Bool
  | .int => true | .bool => true | .str => true | .tuple => true | .list => true | .dict => true
  | _ => false
def subT (a b : Tn) : Bool := match a, b with
  | .int, .int => true
  | .bool, .bool => true
  | .bool, .int => true
  | .str, .str => true
  | .tuple, .tuple => true
  | .list, .list => true
  | .dict, .dict => true
  | _, _ => false
theorem kit_all (a b : Tn) (h : okT b = true) (ha : okT a = true ∨ a = .none) : kitB a.name b.name = some (subT a b) := by
  cases b <;> first | cases h | skip
  all_goals (cases a <;> first | decide +kernel | (exfalso; rcases ha with ha | ha <;> exact nomatch ha))
def tysOf : List D → Option (List Tn)
  | [] => some []
  | .ty t :: r => if okT t = true then (tysOf r).map (t :: ·) else none
  | _ :: _ => none
def instD : Prim := fun ds S => match ds with
  | [x, .ty t] => if okT t = true then (tyOf x S).map fun u => (.bl (subT u t), S) else none
  | [x, .tup cs] => match tysOf cs with
    | some ts => (tyOf x S).map fun u => (.bl (ts.any (subT u)), S)
    | none => none
  | _ => none
section
variable {X : Cx} {fa : Gl0}
theorem tyOf_ok {p : List Addr} {S : Sto} {H : Hp} {d : D} {v : V} {t : Tn} (rs : RS (rc X fa) p S H) (r : RV (rc X fa) p H d v) (h : tyOf d S = some t) : TyX X.K H v (.type t.name) ∧ (okT t = true ∨ t = .none) := by
  cases r with
  | non => cases h; exact ⟨.base .non, .inr rfl⟩
  | bl b => cases h; exact ⟨.base (.bl b), .inl rfl⟩
  | int b => cases h; exact ⟨.base (.int b), .inl rfl⟩
  | str b => cases h; exact ⟨.base (.str b), .inl rfl⟩
  | tup s v1 =>
    cases h
    refine ⟨?_, .inl rfl⟩
    rcases s with ⟨_, s | ⟨o, s⟩⟩ | ⟨o, its, n, hk, hc, _⟩
    · exact .base (.tup s)
    · exact .fTuple s
    · exact .kTuple hk hc
  | scr s v1 =>
    cases h
    refine ⟨?_, .inl rfl⟩
    rcases s with ⟨_, _, s | ⟨o, s⟩⟩ | ⟨o, its, n, hk, hc, _⟩
    · exact .base (.lst s)
    · exact .base (.frz s)
    · exact .kList hk hc
  | @loc l a e =>
    have h' : (match S[l]? with | some (.lst _) => some Tn.list | some (.dct _) => some Tn.dict | some (.dctZ _) => some Tn.dict | _ => none) = some t := h
    cases e3 : S[l]? with
    | none => rw [e3] at h'; cases h'
    | some o =>
      rw [e3] at h'
      have ro := rs.at_ l o a e3 e
      cases o with
      | lst ys => obtain ⟨vs, g1, g2⟩ := ro; cases h'; exact ⟨.base (.lst g1), .inl rfl⟩
      | dct ys => obtain ⟨vs, g1, g2⟩ := ro; cases h'; exact ⟨.base (.dK g1), .inl rfl⟩
      | dcN ys => cases h'
      | dcNZ ys => cases h'
      | dctZ ys => obtain ⟨o, vs, g1, g2⟩ := ro; cases h'; exact ⟨.fDict g1, .inl rfl⟩
  | _ => exact nomatch h
theorem tysOf_ok {R : RC} {p : List Addr} {H : Hp} : ∀ {cs : List D} {vs : List V} {ts : List Tn}, RVs R p H cs vs → tysOf cs = some ts → vs = ts.map (fun t => V.ty t.name) ∧ ∀ t ∈ ts, okT t = true
  | _, _, _, .nil, h => by cases h; exact ⟨rfl, fun _ h => nomatch h⟩
  | _, _, ts, .cons r rs, h => by
    cases r with
    | ty t =>
      have h' : (if okT t = true then (tysOf _).map (t :: ·) else none) = some ts := h
      split at h'
      · rename_i ht
        obtain ⟨k, e1, e2⟩ := map_some h'
        subst e2
        obtain ⟨h1, h2⟩ := tysOf_ok rs e1
        refine ⟨by rw [h1]; rfl, fun u hu => ?_⟩
        rcases List.mem_cons.mp hu with rfl | hu
        · exact ht
        · exact h2 u hu
      · cases h'
    | _ => exact nomatch h
theorem kitAny_ty {K : PySem.W.Frag} {u : Tn} (hu : okT u = true ∨ u = .none) : ∀ {ts : List Tn}, (∀ t ∈ ts, okT t = true) → PySem.W.kitAny K (.type u.name) (ts.map fun t => Value.type t.name) = some (ts.any (subT u))
  | [], _ => rfl
  | t :: ts, h => by
    refine kitAny_cons (kit_ty (kit_all u t (h t List.mem_cons_self) hu)) (fun e => ?_) (fun e => ?_)
    · rw [List.any_cons, e, Bool.false_or]
      exact kitAny_ty hu fun t ht => h t (List.mem_cons_of_mem _ ht)
    · rw [List.any_cons, e, Bool.true_or]
theorem vals_ty : ∀ {ts : List Tn} {us : List Value}, Vals (ts.map fun t => V.ty t.name) us → us = ts.map fun t => Value.type t.name
  | [], _, .nil => rfl
  | t :: ts, _, .cons r rs => by
    have e : _ = Value.type t.name := r
    rw [e, vals_ty rs]; rfl
theorem call_isJ : CallR X (.builtin "isinstance") (xN (rc X fa) instD) := by
  intro pins s σ H xs us Q I rr ⟨p, S, ds, d, S', rs, rv, e, q⟩
  unfold instD at e
  split at e
  · split at e
    · rename_i x t ht
      obtain ⟨u, e1, e2⟩ := map_some e
      cases e2
      cases rv with
      | cons r1 r2 => cases r2 with
        | cons r2 r3 =>
          cases r3; cases r2
          obtain ⟨h1, h2⟩ := tyOf_ok rs r1 e1
          exact call_isi pins s σ H _ us Q I rr ⟨_, _, _, _, _, rfl, .ty _, h1, kit_ty (kit_all u t ht h2), at_once rs q (.bl _)⟩
    · cases e
  · split at e
    · rename_i x cs ts et
      obtain ⟨u, e1, e2⟩ := map_some e
      cases e2
      cases rv with
      | cons r1 r2 => cases r2 with
        | cons r2 r3 =>
          cases r3
          cases r2 with
          | @tup tp vs _ s1 v1 =>
            obtain ⟨h1, h2⟩ := tyOf_ok rs r1 e1
            obtain ⟨g1, g2⟩ := tysOf_ok v1 et
            subst g1
            obtain ⟨u1, u2, rfl, w1, w2⟩ := vals2 rr
            cases (show u2 = Value.ref tp from w2)
            obtain ⟨P, Z, pp, hx⟩ := kit_of I w1 h1
            obtain ⟨its, rv, ⟨o, ho, hc, n, hd⟩, _⟩ := I.tuple s1.sq
            have e3 := vals_ty rv
            subst e3
            obtain ⟨oc, od, dt, sl⟩ := o
            simp only at hc hd
            subst hc hd
            exact PySem.W.kia_tup Z I.kIn pp ho (kitAny_ty h2 g2) hx fun tk => ⟨.bl _, H, I.tok tk, rfl, at_once rs q (.bl _)⟩
    · cases e
  · cases e
end
end Jm

set_option Elab.async false
set_option linter.all false
set_option maxRecDepth 100000
set_option maxHeartbeats 4000000
/-! Jm, part I: statements, targets, loops, comprehensions. -/
noncomputable section
namespace Jm
open PySem PySem.Spec PyProof.Rows L2

/-! ### combinators -/
/-- an expression, then a statement -/
def sBnd {A : Type} (f : E A) (k : A → E Out) : E Out := fun n S => match f n S with
  | .ok a S' => k a n S'
  | .exc c fs S' => .ok (.er c fs n) S'
  | .bad => .bad
def sNil : E Out := fun n S => .ok (.nx n) S
def sThen (o : Out) (k : E Out) (S : Sto) : Res Out := match o with
  | .nx n => k n S
  | o => .ok o S
def sSeq (f g : E Out) : E Out := fun n S => rbind (f n S) fun o S' => sThen o g S'
def sIf (t : E Bool) (f g : E Out) : E Out := sBnd t fun b => if b = true then f else g
def sExp (f : E D) : E Out := sBnd f fun _ n S => .ok (.nx n) S
def sRet (f : E D) : E Out := sBnd f fun d _ S => .ok (.rt d) S
def sRetN : E Out := fun _ S => .ok (.rt .non) S
def sBrk : E Out := fun n S => .ok (.bk n) S
def sCnt : E Out := fun n S => .ok (.ct n) S
/-- a target: the slots behind it -/
abbrev G := D → En → Sto → Res En
def gNam (i : Nat) : G := fun d n S => .ok (n.set i (some d)) S
def gAll : List G → List D → En → Sto → Res En
  | [], [], n, S => .ok n S
  | g :: gs, d :: ds, n, S => rbind (g d n S) fun n' S' => gAll gs ds n' S'
  | _, _, _, _ => .bad
/-- an exception there is not reckoned with -/
def nox {A : Type} (r : Res A) : Res A := match r with
  | .exc _ _ _ => .bad
  | r => r
def gTupl (gs : List G) : G := fun d n S => match d with
  | .tup ds => if ds.length = gs.length then nox (gAll gs ds n S) else .bad
  | .loc l => match lstAt S l with
    | some ds => if ds.length = gs.length then nox (gAll gs ds n S) else .bad
    | none => .bad
  | _ => .bad
/-- o[i] = d -/
def kvPut (kvs : List (Key × D)) (k : Key) (v : D) : List (Key × D) := if (kvs.any fun kv => decide (kv.1 = k)) = true then kvs.map (fun kv => if kv.1 = k then (kv.1, v) else kv) else kvs ++ [(k, v)]
def putSeq (l : Nat) (xs : List D) (i d : D) (S : Sto) : Option Sto := match i with
  | .int k => (ixN xs.length k).map fun j => S.set l (.lst (xs.set j d))
  | _ => none
def putKey (l : Nat) (kvs : List (Key × D)) (o : Option Key) (d : D) (S : Sto) : Option Sto := match o with
  | some k => if kvs.length < LINE then some (S.set l (.dct (kvPut kvs k d))) else none
  | none => none
def putN (l : Nat) (kvs : List (NestedKey × D)) (o : Option NestedKey) (d : D) (S : Sto) : Option Sto := match o with
  | some k => if kvs.length < LINE then some (S.set l (.dcN (nPut kvs k d))) else none
  | none => none
def putK2 (l : Nat) (kvs : List (Key × D)) (i d : D) (S : Sto) : Option Sto := match keyD i with
  | some k => putKey l kvs (some k) d S
  | none => match kvs with
    | [] => putN l [] (tupN i) d S
    | _ => none
def putD (o i d : D) (S : Sto) : Option Sto := match o with
  | .loc l => match S[l]? with
    | some (.lst xs) => putSeq l xs i d S
    | some (.dct kvs) => putK2 l kvs i d S
    | some (.dcN kvs) => putN l kvs (tupN i) d S
    | _ => none
  | _ => none
def gSubs (fo fi : E D) : G := fun d n S => rbind (fo n S) fun o S1 => rbind (fi n S1) fun i S2 => match putD o i d S2 with
  | some S3 => .ok n S3
  | none => .bad
def sAsgn (f : E D) (g : G) : E Out := sBnd f fun d n S => match g d n S with
  | .ok n' S' => .ok (.nx n') S'
  | .exc c fs S' => .ok (.er c fs n) S'
  | .bad => .bad
/-- a, b = e1, e2 with plain local names: stored from the right -/
def sPar (i j : Nat) (f1 f2 : E D) : E Out := sBnd f1 fun d1 => sBnd f2 fun d2 n S => .ok (.nx ((n.set i (some d1)).set j (some d2))) S

/-! ### judgements -/
section
variable {X : Cx} {fa : Gl0} {W : WX} {st : Stmt} {sts : List Stmt} {e : Expr} {pos : Pos}
theorem impS {t t' : TS} (h : PS X st t) (m : ∀ D0 s H, t' D0 s H → t D0 s H) : PS X st t' := ⟨fun pins s σ H D0 I hw => h.run pins s σ H D0 I (m _ _ _ hw)⟩
theorem impSs {t t' : TS} (h : PSs X sts t) (m : ∀ D0 s H, t' D0 s H → t D0 s H) : PSs X sts t' := ⟨fun pins s σ H D0 I hw => h.run pins s σ H D0 I (m _ _ _ hw)⟩
abbrev NoW : Value → Option Addr → Hp → Prop := fun _ _ _ => False
/-- an expression first -/
theorem sE_of {A : Type} {R : RC} {f : E A} {k : A → E Out} {D0 : Ends} {s : L2.St} {H : Hp} {p : List Addr} {n : En} {S : Sto} {Q : A → List Addr → Sto → Hp → Prop}
    (rs : RS R p S H) (re : RE R p n s H) (h : Aft R p H (sBnd f k n S) (fun o p' S' H' => o.post R W D0 p' H') NoW)
    (m : ∀ d p1 S1 H1, RS R p1 S1 H1 → RE R p1 n s H1 → p <+: p1 → Tm p H p1 H1 → Aft R p1 H1 (k d n S1) (fun o p' S' H' => o.post R W D0 p' H') NoW → Q d p1 S1 H1) :
    Aft R p H (f n S) Q (fun c dd H' => W c dd s H') := by
  unfold sBnd at h
  cases e : f n S with
  | ok a S' =>
    rw [e] at h
    exact fun p1 H1 hp t rs1 => m a p1 S' H1 rs1 (re.mono hp t) hp t (Aft.later h hp t)
  | exc c fs S' =>
    rw [e] at h
    exact fun p1 H1 cls dd hp t rs1 x => h p1 H1 hp t rs1 s cls dd (re.mono hp t) x
  | bad => rw [e] at h; exact h
theorem f_snil : PSs X [] (xS (rc X fa) W sNil) := impSs pss_nil fun D0 s H ⟨p, n, S, rs, re, h⟩ => aft_ok rs h s re
theorem seq_in {f g : E Out} {D0 : Ends} {s : L2.St} {H : Hp} (h : xS (rc X fa) W (sSeq f g) D0 s H) : xS (rc X fa) W f { D0 with nx := xS (rc X fa) W g D0 } s H := by
  obtain ⟨p, n, S, rs, re, h⟩ := h
  refine ⟨p, n, S, rs, re, (Aft.bind h).imp (fun o p1 S1 H1 hp t rs1 h1 => ?_) fun _ _ _ w => w⟩
  cases o with
  | nx n' => exact fun s' re' => ⟨p1, n', S1, rs1, re', h1⟩
  | rt d => exact aft_ok rs1 h1
  | bk n' => exact aft_ok rs1 h1
  | ct n' => exact aft_ok rs1 h1
  | er c fs n' => exact aft_ok rs1 h1
theorem f_sseq {f g : E Out} (h1 : PS X st (xS (rc X fa) W f)) (h2 : PSs X sts (xS (rc X fa) W g)) : PSs X (st :: sts) (xS (rc X fa) W (sSeq f g)) := impSs (pss_cons h1 h2) fun D0 s H h => seq_in h
theorem f_sif {t : E Bool} {c : Expr} {a b : List Stmt} {f g : E Out} (hc : PT X c (xT (rc X fa) W t)) (ha : PSs X a (xS (rc X fa) W f)) (hb : PSs X b (xS (rc X fa) W g)) : PS X (.If c a b pos) (xS (rc X fa) W (sIf t f g)) :=
  impS (ps_if hc ha hb) fun D0 s H ⟨p, n, S, rs, re, h⟩ => ⟨p, n, S, rs, re, sE_of rs re h fun b p1 S1 H1 rs1 re1 hp t h1 => by
    cases b with
    | true => exact ⟨p1, n, S1, rs1, re1, h1⟩
    | false => exact ⟨p1, n, S1, rs1, re1, h1⟩⟩
theorem f_sexp {f : E D} (he : PE X e (xE (rc X fa) W f)) (hs : swapsWith e none pos.line X.env = pure false) : PS X (.Expr e pos) (xS (rc X fa) W (sExp f)) :=
  impS (ps_expr he hs) fun D0 s H ⟨p, n, S, rs, re, h⟩ => ⟨p, n, S, rs, re, sE_of rs re h fun d p1 S1 H1 rs1 re1 hp t h1 v rv => aft_ok rs1 h1 s re1⟩
theorem f_sdoc {x : Str} {j : Nat} {p2 : Pos} : PS X (.Expr (.Constant (.str x) j p2) pos) (xS (rc X fa) W sNil) := impS ps_doc fun D0 s H ⟨p, n, S, rs, re, h⟩ => aft_ok rs h s re
theorem f_sret {f : E D} (he : PE X e (xE (rc X fa) W f)) : PS X (.Return (some e) pos) (xS (rc X fa) W (sRet f)) :=
  impS (ps_ret he) fun D0 s H ⟨p, n, S, rs, re, h⟩ => ⟨p, n, S, rs, re, sE_of rs re h fun d p1 S1 H1 rs1 re1 hp t h1 v rv => aft_ok rs1 h1 v rv⟩
theorem f_sretn : PS X (.Return none pos) (xS (rc X fa) W sRetN) := impS ps_retN fun D0 s H ⟨p, n, S, rs, re, h⟩ => aft_ok rs h _ .non
theorem f_spass : PS X (.Pass pos) (xS (rc X fa) W sNil) := impS ps_pass fun D0 s H ⟨p, n, S, rs, re, h⟩ => aft_ok rs h s re
theorem f_sbrk : PS X (.Break pos) (xS (rc X fa) W sBrk) := impS ps_break fun D0 s H ⟨p, n, S, rs, re, h⟩ => aft_ok rs h s re
theorem f_scnt : PS X (.Continue pos) (xS (rc X fa) W sCnt) := impS ps_continue fun D0 s H ⟨p, n, S, rs, re, h⟩ => aft_ok rs h s re

/-! ### targets -/
/-- vs: the slots that it may store -/
def xG (R : RC) (W : WX) (vs : List Nat) (g : G) : TG := fun v s H Q => ∃ p n S d, RS R p S H ∧ RE R p n s H ∧ RV R p H d v ∧ Aft R p H (g d n S) (fun n' p' S' H' => ∀ s', RE R p' n' s' H' → wipe s' vs = wipe s vs → Q s' H') (fun c dd H' => W c dd s H')
def xGs (R : RC) (W : WX) (vs : List Nat) (gs : List G) : TGs := fun us s H Q => ∃ p n S ds, RS R p S H ∧ RE R p n s H ∧ RVs R p H ds us ∧ Aft R p H (gAll gs ds n S) (fun n' p' S' H' => ∀ s', RE R p' n' s' H' → wipe s' vs = wipe s vs → Q s' H') NoW
theorem impG {tg : Expr} {t t' : TG} (h : PG X tg t) (m : ∀ v s H Q, t' v s H Q → t v s H Q) : PG X tg t' := ⟨fun pins s σ H v u Q I r hw => h.run pins s σ H v u Q I r (m _ _ _ _ hw)⟩
theorem impGs {tg : List Expr} {t t' : TGs} (h : PGs X tg t) (m : ∀ v s H Q, t' v s H Q → t v s H Q) : PGs X tg t' := ⟨fun pins s σ H v u Q I r hw => h.run pins s σ H v u Q I r (m _ _ _ _ hw)⟩
theorem wipe_set {i : Nat} {v : Option V} : ∀ {vs : List Nat} {s : L2.St}, i ∈ vs → wipe (s.set i v) vs = wipe s vs
  | [], _, h => nomatch h
  | w :: vs, s, h => by
    show (wipe (s.set i v) vs).set w none = (wipe s vs).set w none
    by_cases hw : i ∈ vs
    · rw [wipe_set hw]
    · have e : i = w := by
        rcases List.mem_cons.mp h with h | h
        · exact h
        · exact absurd h hw
      subst e
      have out : ∀ {vs : List Nat} {s : L2.St}, i ∉ vs → wipe (s.set i v) vs = (wipe s vs).set i v := by
        intro vs
        induction vs with
        | nil => intro s _; rfl
        | cons w vs ih =>
          intro s hn
          have h1 : i ≠ w := fun z => hn (by rw [z]; exact List.mem_cons_self)
          have h2 : i ∉ vs := fun z => hn (List.mem_cons_of_mem _ z)
          show (wipe (s.set i v) vs).set w none = ((wipe s vs).set w none).set i v
          rw [ih h2, List.set_comm _ _ h1]
      rw [out hw, List.set_set]
theorem f_gnam {i : Nat} {x : Str} {vs : List Nat} (hN : X.N.Nodup) (hi : X.N[i]? = some x) (hx : Loc X.env.scope x) (hf : X.fn x = true ∨ X.env.scope.names.lookup x = some .local) (hv : i ∈ vs) : PG X (.Name x pos) (xG (rc X fa) W vs (gNam i)) :=
  impG (pg_name hN hi hx hf) fun v s H Q ⟨p, n, S, d, rs, re, rv, h⟩ => aft_ok rs h _ (re.set rv) (wipe_set hv)
theorem f_gnil {vs : List Nat} : PGs X [] (xGs (rc X fa) W vs []) := impGs pgs_nil fun us s H Q ⟨p, n, S, ds, rs, re, rv, h⟩ => by
  cases rv with
  | nil => exact ⟨rfl, aft_ok rs h _ re rfl⟩
  | cons _ _ => exact h.elim
theorem f_gcons {e : Expr} {es : List Expr} {g : G} {gs : List G} {vs : List Nat} (h1 : PG X e (xG (rc X fa) (fun _ _ _ _ => False) vs g)) (h2 : PGs X es (xGs (rc X fa) W vs gs))
    (hs : (assignEach (e :: es) X.env).map (·.2) = assign e X.env :: (assignEach es X.env).map (·.2)) : PGs X (e :: es) (xGs (rc X fa) W vs (g :: gs)) :=
  impGs (pgs_cons h1 h2 hs) fun us s H Q ⟨p, n, S, ds, rs, re, rv, h⟩ => by
    cases rv with
    | nil => exact h.elim
    | @cons d v ds us r rr =>
      refine ⟨v, us, rfl, p, n, S, d, rs, re, r, (Aft.bind h).imp (fun n' p1 S1 H1 hp t rs1 h1 s' re' hw => ?_) fun _ _ _ w => w⟩
      exact ⟨p1, n', S1, ds, rs1, re', rr.mono hp t, h1.imp (fun n2 p2 S2 H2 hp2 t2 rs2 q s2 re2 hw2 => q s2 re2 (hw2.trans hw)) fun _ _ _ w => w⟩
theorem aft_nox {A : Type} {R : RC} {p : List Addr} {H : Hp} {r : Res A} {Q : A → List Addr → Sto → Hp → Prop} {W1 W2 : Value → Option Addr → Hp → Prop} (h : Aft R p H (nox r) Q W1) : Aft R p H r Q W2 := by
  cases r with
  | ok a S => exact h
  | exc c fs S => exact h.elim
  | bad => exact h
theorem f_gtup {es : List Expr} {k : Nat} {gs : List G} {vs : List Nat} (hc : X.calm = true) (h : PGs X es (xGs (rc X fa) W vs gs)) (hl : gs.length = es.length)
    (hn : (assignEach es X.env).length = es.length) (hst : (assignEach es X.env).findIdx? (·.1) = none) : PG X (.Tuple es k pos) (xG (rc X fa) W vs (gTupl gs)) :=
  ⟨fun pins s σ H v u Q I r hw => by
    obtain ⟨p, n, S, d, rs, re, rv, hh⟩ := hw
    cases rv with
    | @tup a xs ds s1 v1 =>
      have hh : Aft (rc X fa) p H (if ds.length = gs.length then nox (gAll gs ds n S) else .bad) _ _ := hh
      by_cases hq : ds.length = gs.length
      · rw [if_pos hq] at hh
        exact (pg_tup (n := es.length) hc h hn hst).run pins s σ H _ u Q I r ⟨a, xs, rfl, s1.sq, by rw [← v1.length, hq, hl], p, n, S, ds, rs, re, v1, aft_nox hh⟩
      · rw [if_neg hq] at hh
        exact hh.elim
    | @loc l a he =>
      have hh : Aft (rc X fa) p H (match lstAt S l with | some ds => if ds.length = gs.length then nox (gAll gs ds n S) else .bad | none => .bad) _ _ := hh
      cases ed : lstAt S l with
      | none => rw [ed] at hh; exact hh.elim
      | some ds =>
        rw [ed] at hh
        obtain ⟨vs, h5, v1⟩ := rs.list he ed
        have hh : Aft (rc X fa) p H (if ds.length = gs.length then nox (gAll gs ds n S) else .bad) _ _ := hh
        by_cases hq : ds.length = gs.length
        · rw [if_pos hq] at hh
          exact (pg_unl (n := es.length) hc h hn hst).run pins s σ H _ u Q I r ⟨a, vs, rfl, .inl (.inl h5), by rw [← v1.length, hq, hl], p, n, S, ds, rs, re, v1, aft_nox hh⟩
        · rw [if_neg hq] at hh
          exact hh.elim
    | _ => exact hh.elim⟩
def xSet (R : RC) : TSet := fun o i v H Q => ∃ p S d1 d2 d S', RS R p S H ∧ RV R p H d1 o ∧ RV R p H d2 i ∧ RV R p H d v ∧ putD d1 d2 d S = some S' ∧ ∀ p' H', p <+: p' → Tm p H p' H' → RS R p' S' H' → Q H'
theorem kv_any {R : RC} {p : List Addr} {H : Hp} {k : Key} : ∀ {ds : List (Key × D)} {us : List (Key × V)}, Paired (fun (x : Key × D) (y : Key × V) => x.1 = y.1 ∧ RV R p H x.2 y.2) ds us → (ds.any fun kv => decide (kv.1 = k)) = us.any fun kv => decide (kv.1 = k)
  | _, _, .nil => rfl
  | _, _, .cons h t => by
    rw [List.any_cons, List.any_cons, h.1, kv_any t]
theorem kv_put {R : RC} {p : List Addr} {H : Hp} {k : Key} {d : D} {v : V} {ds : List (Key × D)} {us : List (Key × V)} (h : Paired (fun (x : Key × D) (y : Key × V) => x.1 = y.1 ∧ RV R p H x.2 y.2) ds us) (r : RV R p H d v) :
    Paired (fun (x : Key × D) (y : Key × V) => x.1 = y.1 ∧ RV R p H x.2 y.2) (kvPut ds k d) (putK us k v) := by
  unfold kvPut putK
  rw [kv_any h]
  by_cases c : (us.any fun kv => decide (kv.1 = k)) = true
  · rw [if_pos c, if_pos c]
    clear c
    induction h with
    | nil => exact .nil
    | cons h t ih =>
      refine .cons ?_ ih
      dsimp only
      rw [h.1]
      split
      · exact ⟨rfl, r⟩
      · exact ⟨h.1, h.2⟩
  · rw [if_neg c, if_neg c]
    clear c
    induction h with
    | nil => exact .cons ⟨rfl, r⟩ .nil
    | cons h t ih => exact .cons h ih
theorem set_J (hu : X.A.units + 65 < cLine) : PSet X (xSet (rc X fa)) := by
  intro pins s σ H o i v ov iv u Q I ro ri rv ⟨p, S, d1, d2, d, S', rs, r1, r2, r3, e, q⟩
  cases r1 with
  | @loc l a h =>
    have hm : a ∈ p := List.mem_of_getElem? h
    have e' : (match S[l]? with
      | some (.lst xs) => putSeq l xs d2 d S
      | some (.dct kvs) => putK2 l kvs d2 d S
      | some (.dcN kvs) => putN l kvs (tupN d2) d S
      | _ => none) = some S' := e
    cases e3 : S[l]? with
    | none => rw [e3] at e'; cases e'
    | some ob =>
      rw [e3] at e'
      have ro' := rs.at_ l ob a e3 h
      cases ob with
      | lst xs =>
        obtain ⟨vs, g1, g2⟩ := ro'
        have e' : putSeq l xs d2 d S = some S' := e'
        cases r2 with
        | int k =>
          have e' : (ixN xs.length k).map (fun j => S.set l (.lst (xs.set j d))) = some S' := e'
          obtain ⟨j, e4, e5⟩ := map_some e'
          have T := Tm.mut (H := H) (o := .lst (vs.set j v)) hm (nfz_l g1)
          refine set_list pins s σ H _ _ v ov iv u Q I ro ri rv ⟨a, vs, k, j, rfl, rfl, g1, by rw [← g2.length]; exact e4, q p _ (List.prefix_refl _) T ?_⟩
          rw [← e5]
          exact rs.put e3 h (nfz_l g1) ⟨_, upd_same, (g2.mono (List.prefix_refl _) T).set (r3.mono (List.prefix_refl _) T) j⟩
        | _ => exact nomatch e'
      | dct kvs =>
        obtain ⟨us, g1, g2⟩ := ro'
        have e' : putK2 l kvs d2 d S = some S' := e'
        unfold putK2 at e'
        cases e4 : keyD d2 with
        | none =>
          rw [e4] at e'
          cases kvs with
          | cons _ _ => cases e'
          | nil =>
            have e' : putN l [] (tupN d2) d S = some S' := e'
            cases e4 : tupN d2 with
            | none => rw [e4] at e'; cases e'
            | some k =>
              rw [e4] at e'
              have e' : (if ([] : List (NestedKey × D)).length < LINE then some (S.set l (.dcN (nPut [] k d))) else none) = some S' := e'
              split at e'
              · rename_i hl
                cases e'
                obtain ⟨b, _, rfl, hk⟩ := key_at r2 e4 ri
                cases ro
                refine n_setItem (by omega) I (ob := .dct []) ⟨us, g1, g2⟩ rfl hk r3 rv hl fun s' H' I' ⟨o, eH, hro⟩ => ?_
                subst eH
                have T := Tm.mut (H := H) (o := o) hm (nfz_d g1)
                exact ⟨_, I', q p _ (List.prefix_refl _) T (rs.put e3 h (nfz_d g1) (hro T))⟩
              · cases e'
        | some k =>
          rw [e4] at e'
          have e' : (if kvs.length < LINE then some (S.set l (.dct (kvPut kvs k d))) else none) = some S' := e'
          split at e'
          · rename_i hl
            cases e'
            have hk := key_of r2 e4
            subst hk
            cases ro
            have T := Tm.mut (H := H) (o := .dK (putK us k v)) hm (nfz_d g1)
            refine d_setItem (by omega) I (.k g1 (by rw [← paired_length g2, line_eq]; exact hl)) ri rv fun s' I' => ⟨_, I', q p _ (List.prefix_refl _) T ?_⟩
            refine rs.put e3 h (nfz_d g1) ⟨_, upd_same, ?_⟩
            exact paired_imp (kv_put g2 r3) fun x y z => ⟨z.1, z.2.mono (List.prefix_refl _) T⟩
          · cases e'
      | dctZ kvs => cases e'
      | dcNZ kvs => cases e'
      | dcN kvs =>
        have e' : putN l kvs (tupN d2) d S = some S' := e'
        cases e4 : tupN d2 with
        | none => rw [e4] at e'; cases e'
        | some k =>
          rw [e4] at e'
          have e' : (if kvs.length < LINE then some (S.set l (.dcN (nPut kvs k d))) else none) = some S' := e'
          split at e'
          · rename_i hl
            cases e'
            obtain ⟨b, _, rfl, hk⟩ := key_at r2 e4 ri
            cases ro
            refine n_setItem (by omega) I ro' rfl hk r3 rv hl fun s' H' I' ⟨o, eH, hro⟩ => ?_
            subst eH
            have hz : NFz (H a) := by
              obtain ⟨_, g1, _⟩ := ro'
              exact nfz_e g1
            have T := Tm.mut (H := H) (o := o) hm hz
            exact ⟨_, I', q p _ (List.prefix_refl _) T (rs.put e3 h hz (hro T))⟩
          · cases e'
  | _ => exact nomatch e
theorem assign_sub {o i : Expr} (h : noSlice i = true) (v : Value) : assign (.Subscript o i pos) X.env v = (do
      let ov ← holding [v] (eval o X.env)
      let iv ← holding [v, ov] (eval i X.env)
      standAt pos
      holding [v, ov, iv] (setItem ov iv v)
      release [v, ov, iv] []) := by
  cases i <;> first | rfl | cases h
theorem f_gsub {o i : Expr} {fo fi : E D} {vs : List Nat} (hu : X.A.units + 65 < cLine) (ho : PE X o (xE (rc X fa) W fo)) (hi : PE X i (xE (rc X fa) W fi)) (hs : noSlice i = true) : PG X (.Subscript o i pos) (xG (rc X fa) W vs (gSubs fo fi)) :=
  impG (pg_sub ho hi (set_J hu) (assign_sub hs)) fun v s H Q ⟨p, n, S, d, rs, re, rv, h⟩ => by
    have h : Aft (rc X fa) p H (eBnd fo (fun o => eBnd fi fun i n S2 => match putD o i d S2 with | some S3 => .ok n S3 | none => .bad) n S) _ _ := h
    exact xE_of rs re h fun d1 p1 S1 H1 v1 rs1 re1 hp t rv1 h1 => xE_of rs1 re1 h1 fun d2 p2 S2 H2 v2 rs2 re2 hp2 t2 rv2 h2 => by
      cases e : putD d1 d2 d S2 with
      | none => rw [e] at h2; exact h2.elim
      | some S3 =>
        rw [e] at h2
        exact ⟨p2, S2, d1, d2, d, S3, rs2, rv1.mono hp2 t2, rv2, (rv.mono hp t).mono hp2 t2, e, fun p3 H3 hp3 t3 rs3 => h2 p3 H3 hp3 t3 rs3 s (re2.mono hp3 t3) rfl⟩
theorem f_sasg {tg : Expr} {f : E D} {g : G} {vs : List Nat} (he : PE X e (xE (rc X fa) W f)) (hg : PG X tg (xG (rc X fa) W vs g)) (hs : swapsWithSole [tg] e pos.line X.env = pure false) (hw : swappedStores [tg] e X.env = pure none)
    (h1 : (assignEach [tg] X.env).map (·.2) = [assign tg X.env]) : PS X (.Assign [tg] e pos) (xS (rc X fa) W (sAsgn f g)) :=
  impS (ps_asg he hg hs hw h1) fun D0 s H ⟨p, n, S, rs, re, h⟩ => ⟨p, n, S, rs, re, sE_of rs re h fun d p1 S1 H1 rs1 re1 hp t h1 v rv => by
    refine ⟨p1, n, S1, d, rs1, re1, rv, ?_⟩
    cases e : g d n S1 with
    | ok n' S' =>
      rw [e] at h1
      exact fun p2 H2 hp2 t2 rs2 s' re' _ => h1 p2 H2 hp2 t2 rs2 s' re'
    | exc c fs S' =>
      rw [e] at h1
      exact fun p2 H2 cls dd hp2 t2 rs2 x => h1 p2 H2 hp2 t2 rs2 s cls dd (re1.mono hp2 t2) x
    | bad => rw [e] at h1; exact h1⟩
theorem f_spar {i j : Nat} {x y : Str} {a b : Expr} {f1 f2 : E D} {px py pt : Pos} {kt k2 : Nat} {pt2 : Pos} (hc : X.calm = true) (hN : X.N.Nodup) (hi : X.N[i]? = some x) (hj : X.N[j]? = some y) (hij : i ≠ j)
    (hx : X.env.scope.names.lookup x = some .local) (hy : X.env.scope.names.lookup y = some .local) (ha : PE X a (xE (rc X fa) W f1)) (hb : PE X b (xE (rc X fa) W f2))
    (h1 : starEach [a, b] X.env = (false, eval a X.env) :: starEach [b] X.env) (h2 : starEach [b] X.env = (false, eval b X.env) :: starEach [] X.env)
    (hw : swappedStores [.Tuple [.Name x px, .Name y py] kt pt] (.Tuple [a, b] k2 pt2) X.env = pure (some [x, y])) :
    PS X (.Assign [.Tuple [.Name x px, .Name y py] kt pt] (.Tuple [a, b] k2 pt2) pos) (xS (rc X fa) W (sPar i j f1 f2)) :=
  impS (ps_par hc hN hi hj hij hx hy (pa_cons ha (pa_cons hb pa_nil h2) h1) hw) fun D0 s H ⟨p, n, S, rs, re, h⟩ => ⟨p, n, S, rs, re, sE_of rs re h fun d p1 S1 H1 rs1 re1 hp t h1 v rv =>
    ⟨p1, n, S1, rs1, re1, sE_of rs1 re1 h1 fun d2 p2 S2 H2 rs2 re2 hp2 t2 h2 v2 rv2 => ⟨v, v2, rfl, aft_ok rs2 h2 _ ((re2.set (rv.mono hp2 t2)).set rv2)⟩⟩⟩
end
end Jm

set_option Elab.async false
set_option linter.all false
set_option maxRecDepth 100000
set_option maxHeartbeats 4000000
/-! Jm, part Nw: a locked dict with keys that are tuples within tuples, walked by its keys and by its pairs. -/
namespace Jm
open PySem PySem.Spec PyProof.Rows L2
/-- the keys of the locked dict at d, in their order -/
def ItkN (P : Program) (w : World) (d : Addr) (o : Obj) : It :=
  ⟨fun i H => ∃ xs : List (NestedKey × Addr × Value), H d = some (.frz o (.ext (RawN P w d xs))) ∧ i < xs.length, fun i H x H' => H' = H ∧ ∀ xs : List (NestedKey × Addr × Value), H d = some (.frz o (.ext (RawN P w d xs))) → ∃ y, xs[i]? = some y ∧ x = .ref y.2.1, fun i H => ∃ xs : List (NestedKey × Addr × Value), H d = some (.frz o (.ext (RawN P w d xs))) ∧ xs.length ≤ i⟩
/-- the pairs, each a new tuple -/
def ItiN (P : Program) (w : World) (d : Addr) (o : Obj) : It :=
  ⟨fun i H => ∃ xs : List (NestedKey × Addr × Value), H d = some (.frz o (.ext (RawN P w d xs))) ∧ i < xs.length, fun i H x H' => ∃ T b v, x = .ref T ∧ H T = none ∧ H' = upd H T (.tup [.ref b, v]) ∧ ∀ xs : List (NestedKey × Addr × Value), H d = some (.frz o (.ext (RawN P w d xs))) → ∃ y, xs[i]? = some y ∧ b = y.2.1 ∧ RelV v y.2.2, fun i H => ∃ xs : List (NestedKey × Addr × Value), H d = some (.frz o (.ext (RawN P w d xs))) ∧ xs.length ≤ i⟩
section
variable {X : Cx} {pins : List (Addr × Obj)} {σ : L2.St} {H : Hp} {s : Shared} {d : Addr} {o : Obj}
theorem frzN {xs : List (NestedKey × Addr × Value)} (I : Inv X pins σ H s) (h : H d = some (.frz o (.ext (RawN X.prog X.w d xs)))) :
    ∃ (es : Array DictEntry) (ep : Nat), o.data = .dict es ep ∧ s.heap.DictRaw d es ep ∧ es.size = xs.length ∧ s.heap.get? d = some o ∧ o.ExactDict ∧ ∀ (i : Nat) (hi : i < es.size), ∃ y, xs[i]? = some y ∧ es[i].key = .ref y.2.1 ∧ es[i].val = y.2.2 := by
  obtain ⟨hd, ⟨o', es, ep, h1, h2, h3, h4, h5⟩, _, _⟩ := (show ObjOk X.prog X.w H s.heap d (.frz o (.ext (RawN X.prog X.w d xs))) from I.hok d _ h)
  rw [hd] at h1
  cases h1
  have hs := size_of_entries h4
  refine ⟨es, ep, h3, ⟨o, hd, h2, h3⟩, hs, hd, h2, fun i hi => ?_⟩
  have hx : i < xs.length := hs ▸ hi
  have e := entry_at h4 i
  rw [Array.getElem?_eq_getElem hi, List.getElem?_eq_getElem hx, Option.map_some] at e
  have e' := Option.some.inj e
  exact ⟨xs[i], List.getElem?_eq_getElem hx, by rw [e']; rfl, by rw [e']; rfl⟩
end
section
variable {P : Program} {w : World} {K : PySem.W.Frag} {tg : Expr} {d : Addr} {o : Obj} {es : Array DictEntry} {ep : Nat}
theorem turn_keysN (it : Addr) (hod : o.data = .dict es ep) : Turn P w K tg (ItkN P w d o) [it] it (fun i h => h.IsKeyIter it d i es.size ep) where
  mem := by simp
  obj := fun i h st b hb => by
    have e : b = it := by simpa using hb
    subst e
    obtain ⟨oi, e, c, dd⟩ := st
    exact ⟨oi, e, fun v z => by rw [dd] at z; cases z⟩
  keep := fun i h h' st k => st.at fun oi e => k it (by simp) oi e
  item := by
    intro X hP hw hK hc i pins s σ H E I hf st hg
    subst hP hw hK
    obtain ⟨xs, hd, hi⟩ := hg
    obtain ⟨f0, f1, f2, f3, f4, f5⟩ := hf it (by simp)
    obtain ⟨es', ep', hdt, hraw, hsz, hgd, hx, hent⟩ := frzN I hd
    obtain ⟨rfl, rfl⟩ := dict_ep hod hdt
    rw [← hsz] at hi
    obtain ⟨y, hy, hk, hv⟩ := hent i hi
    refine wpAny_pyNext_keys_item_raw st hraw hi fun h' st' sb => ?_
    have I1 : Inv X pins σ H { s with heap := h' } := I.turned (t' := s.toks) (fun b ob hb e => (sb.2 b hb).trans e) f0 f1 f3 f4 f5
    obtain ⟨oi, e, c, dd⟩ := id st'
    refine ⟨_, rfl, go_of (s := { s with heap := h' }) e c dd (by decide) ⟨.ref y.2.1, H, I1, hk, ⟨rfl, fun xs' hd' => ?_⟩, st', fun b hb => (hf b hb).1⟩⟩
    obtain ⟨es', ep', hdt', _, _, _, _, hent'⟩ := frzN I hd'
    obtain ⟨rfl, rfl⟩ := dict_ep hod hdt'
    obtain ⟨y', hy', hk', _⟩ := hent' i hi
    exact ⟨y', hy', congrArg V.ref (Value.ref.inj (hk.symm.trans hk'))⟩
  done := by
    intro X hP hw hK hc i pins s σ H E I hf st hg
    subst hP hw hK
    obtain ⟨xs, hd, hi⟩ := hg
    obtain ⟨f0, f1, f2, f3, f4, f5⟩ := hf it (by simp)
    obtain ⟨es', ep', hdt, hraw, hsz, hgd, hx, hent⟩ := frzN I hd
    obtain ⟨rfl, rfl⟩ := dict_ep hod hdt
    exact next_key_end (I.ok.hd hc) st hgd hdt rfl (by omega) fun h' eb => ⟨rfl, I.turned (t' := s.toks) (fun b ob hb e => eb b ob hb e) f0 f1 f3 f4 f5⟩
  self := fun A i s Q E st h => wpAny_pyIter_keyiter st h
theorem turn_itemsN {elts : List Expr} {kk : Nat} {tpos : Pos} (it : Addr) (hod : o.data = .dict es ep) (hvs : ∀ (i : Nat) (hi : i < es.size), ∃ v, RelV v es[i].val) :
    Turn P w K (.Tuple elts kk tpos) (ItiN P w d o) [it] it (fun i h => ∃ ok ov, IsItemIter h it d i es.size ep ok ov) where
  mem := by simp
  obj := fun i h st b hb => by
    have e : b = it := by simpa using hb
    subst e
    obtain ⟨ok, ov, e⟩ := st
    exact ⟨_, e, fun v z => nomatch z⟩
  keep := fun i h h' st k => let ⟨ok, ov, e⟩ := st; ⟨ok, ov, k it (by simp) _ e⟩
  item := by
    intro X hP hw hK hc i pins s σ H E I hf st hg
    subst hP hw hK
    obtain ⟨xs, hd, hi⟩ := hg
    obtain ⟨es', ep', hdt, hraw, hsz, hgd, hx, hent⟩ := frzN I hd
    obtain ⟨rfl, rfl⟩ := dict_ep hod hdt
    obtain ⟨ok, ov, he⟩ := st
    rw [← hsz] at hi
    obtain ⟨y, hy, hkey, hval⟩ := hent i hi
    obtain ⟨v, hv2⟩ := hvs i hi
    have hv3 : RelV v y.2.2 := by rw [← hval]; exact hv2
    have hlt : it < s.heap.objs.size := Heap.lt_size he
    refine wpAny_pyNext_items_item_raw he hraw hi fun h' ho hT hz hk => ?_
    rw [hkey, hval] at ho hT
    refine ⟨_, rfl, wpAny_letOwnedTupleGo_items (s := { s with heap := h' }) ho fun h'' he' sb => ?_⟩
    have hT2 : h''.get? s.heap.objs.size = some { cls := .type "tuple", data := .seq #[.ref y.2.1, y.2.2] } := (sb.2 _ (Nat.ne_of_gt hlt)).trans hT
    have new : ObjOk X.prog X.w (upd H s.heap.objs.size (.tup [.ref y.2.1, v])) h'' s.heap.objs.size (.tup [.ref y.2.1, v]) :=
      ⟨by show 2 ≤ sizeLine; decide, [.ref y.2.1, y.2.2], .cons rfl (.cons hv3 .nil), ⟨_, hT2, rfl, _, rfl⟩⟩
    have I1 : Inv X pins σ (upd H s.heap.objs.size (.tup [.ref y.2.1, v])) { s with heap := h'' } :=
      I.turnedNew (t' := s.toks) (ch := [it]) (fun b ob hb e => (sb.2 b (by simpa using hb)).trans (hk b ob (by simpa using hb) e)) hf (Nat.le_refl _) new
    refine ⟨.ref s.heap.objs.size, _, I1, rfl, ⟨_, y.2.1, v, rfl, I.hok.fresh (Nat.le_refl _), rfl, fun xs' hd' => ?_⟩, ⟨.ref y.2.1, y.2.2, he'⟩, fun b hb => ?_⟩
    · obtain ⟨es', ep', hdt', _, _, _, _, hent'⟩ := frzN I hd'
      obtain ⟨rfl, rfl⟩ := dict_ep hod hdt'
      obtain ⟨y', hy', hk', hv'⟩ := hent' i hi
      exact ⟨y', hy', Value.ref.inj (hkey.symm.trans hk'), by rw [← hval.symm.trans hv']; exact hv3⟩
    · have e : b = it := by simpa using hb
      rw [e, upd_ne (Nat.ne_of_lt hlt)]
      exact (hf it (by simp)).1
  done := by
    intro X hP hw hK hc i pins s σ H E I hf st hg
    subst hP hw hK
    obtain ⟨xs, hd, hi⟩ := hg
    obtain ⟨f0, f1, f2, f3, f4, f5⟩ := hf it (by simp)
    obtain ⟨es', ep', hdt, hraw, hsz, hgd, hx, hent⟩ := frzN I hd
    obtain ⟨rfl, rfl⟩ := dict_ep hod hdt
    obtain ⟨ok, ov, he⟩ := st
    exact wpAny_pyNext_items_end_raw (I.ok.hd hc) he hraw (by omega) fun h' eb => ⟨rfl, I.turned (t' := s.toks) (fun b ob hb e => eb b ob hb e) f0 f1 f3 f4 f5⟩
  self := fun A i s Q E st h => let ⟨_, _, e⟩ := st; PySem.W.kcp_self e h
end
section
variable {X : Cx} {tg e : Expr} {td : TE} {apos cpos : Pos}
def iKeysN (X : Cx) (td : TE) : TI := fun σ H R => td σ H fun x H1 => ∃ d o xs, x = .ref d ∧ (d == sysModules) = false ∧ H1 d = some (.frz o (.ext (RawN X.prog X.w d xs))) ∧ R (ItkN X.prog X.w d o) H1
def iItemsN (X : Cx) (td : TE) : TI := fun σ H R => td σ H fun x H1 => ∃ d o xs, x = .ref d ∧ (d == sysModules) = false ∧ H1 d = some (.frz o (.ext (RawN X.prog X.w d xs))) ∧ (∀ y ∈ xs, ∃ v, RelV v y.2.2) ∧ R (ItiN X.prog X.w d o) H1
theorem pi_keysN (he : PE X e td) : PI X tg e (iKeysN X td) := by
  refine ⟨fun pins s σ H R I h => ?_⟩
  refine thn (he.run pins s σ H _ I h) fun u s1 ⟨x, H1, I1, rx, d, o, xs, ex, hs, hd, q⟩ => ?_
  subst ex
  obtain rfl : u = Value.ref d := rx
  obtain ⟨es, ep, hdt, hraw, hsz, hgd, hx, hent⟩ := frzN I1 hd
  refine wpAny_pyIter_dict_raw hs hraw (pi_one (tk := s1.toks) I1 _ (turn_keysN _ hdt) ⟨_, Heap.get?_push_size _ rfl, rfl, rfl⟩ q)
theorem pi_itemsN {elts : List Expr} {kk : Nat} {tpos : Pos} (he : PE X e td) (hbase : attributeBase e "items" X.env (eval e X.env) = eval e X.env := by rfl) (hline : (apos.endLine == cpos.line) = true := by rfl) :
    PI X (.Tuple elts kk tpos) (.Call (.Attribute e "items" apos) [] [] cpos) (iItemsN X td) := by
  refine ⟨fun pins s σ H R I h => ?_⟩
  refine wpAny_Call_method (T := "dict") (id := "dict.items") hbase rfl hline F.plainAttrs_dict F.slot_dict_items F.type_dict_items (thn (he.run pins s σ H _ I h) fun u s1 ⟨x, H1, I1, rx, d, o, xs, ex, hs, hd, hvs, q⟩ => ?_)
  subst ex
  obtain rfl : u = Value.ref d := rx
  obtain ⟨es, ep, hdt, hraw, hsz, hgd, hx, hent⟩ := frzN I1 hd
  refine ⟨hraw.typeIs, fun b hb => ?_, ?_⟩
  · cases hb
    exact ⟨o, hgd, hx.2.1⟩
  have I2 : Inv X pins σ H1 { s1 with heap := s1.heap.push { cls := .type "dict_items", data := .fields #[.ref d] } } := I1.kept (t' := s1.toks) fun b ob q => Heap.get?_push_of_some _ q
  have fin : wpAny (model X.prog X.w) X.A (pyIter (.ref s1.heap.objs.size)) (PIE X pins σ (.Tuple elts kk tpos) R) X.xe { s1 with heap := s1.heap.push { cls := .type "dict_items", data := .fields #[.ref d] } } := by
    refine wpAny_pyIter_items_raw (d := d) ⟨_, Heap.get?_push_size _ rfl, rfl, rfl⟩ (hraw.at fun b e => Heap.get?_push_of_some _ e) (pi_one (tk := s1.toks) I2 _ (turn_itemsN _ hdt fun i hi => ?_) ⟨.none, .none, Heap.get?_push_size _ rfl⟩ q)
    obtain ⟨y, hy, _, hv⟩ := hent i hi
    rw [hv]
    exact hvs y (List.mem_of_getElem? hy)
  show wpAny _ _ (callWith cpos (.builtin "dict.items") [.ref d] [] []) _ X.xe s1
  exact method_meetsIn F.slot_dict_items F.entry_dict_items rfl (PySem.evalArgs_none ⟨rfl, hraw.typeIs, F.args_dict_items_1 _, _, meets_dict_items_raw d hs, ⟨es, ep, hraw⟩, fin⟩)
end
end Jm

set_option Elab.async false
set_option linter.all false
set_option maxRecDepth 100000
set_option maxHeartbeats 4000000
/-! Jm, part J: what is walked; for, while, list comprehensions. -/
noncomputable section
namespace Jm
open PySem PySem.Spec PyProof.Rows L2

/-! ### what is walked -/
/-- items that stay, or the list at a place of the store as it stands at each turn -/
inductive Src where
  | fix (tp : Bool) (xs : List D) | dyn (l : Nat)
def Src.get (s : Src) (S : Sto) : Option (List D) := match s with
  | .fix _ xs => some xs
  | .dyn l => lstAt S l
/-- is it a tuple -/
def Src.tp : Src → Bool
  | .fix b _ => b
  | .dyn _ => false
def srcOf : D → Option Src
  | .tup xs => some (.fix true xs)
  | .scr xs => some (.fix false xs)
  | .loc l => some (.dyn l)
  | _ => none
inductive Itn where
  | one (s : Src) | rev (s : Src) (n : Nat) | enum (s : Src) | zip (s t : Src) | rng (lo c : Int) (n : Nat) | str (x : Str) | keys (l : Nat) | keysN (l : Nat) | items (l : Nat) | itemsN (l : Nat)
/-- a key as a value -/
def kD : Key → D
  | .inl i => .int i
  | .inr x => .str x
/-- the turn's item; some none: it stops -/
def Itn.next (it : Itn) (i : Nat) (S : Sto) : Option (Option D) := match it with
  | .one s => (s.get S).map fun xs => xs[i]?
  | .rev s n => if i < n then match s.get S with
    | some xs => match xs[n - 1 - i]? with
      | some d => some (some d)
      | none => none
    | none => none
    else some none
  | .enum s => (s.get S).map fun xs => (xs[i]?).map fun d => .tup [.int (i : Nat), d]
  | .zip s t => match s.get S, t.get S with
    | some xs, some ys => match xs[i]?, ys[i]? with
      | some x, some y => some (some (.tup [x, y]))
      | _, _ => some none
    | _, _ => none
  | .rng lo c n => if i < n then some (some (.int (lo + (i : Nat) * c))) else some none
  | .str x => some ((x.cps[i]?).map fun c => .str ⟨#[c]⟩)
  | .keys l => match S[l]? with
    | some (.dctZ kvs) => some ((kvs[i]?).map fun kv => kD kv.1)
    | _ => none
  | .keysN l => match S[l]? with
    | some (.dcNZ kvs) => some ((kvs[i]?).map fun kv => unN kv.1)
    | _ => none
  | .items l => match S[l]? with
    | some (.dctZ kvs) => some ((kvs[i]?).map fun kv => .tup [kD kv.1, kv.2])
    | _ => none
  | .itemsN l => match S[l]? with
    | some (.dcNZ kvs) => some ((kvs[i]?).map fun kv => .tup [unN kv.1, kv.2])
    | _ => none
def FUEL : Nat := hid 1000000000
theorem FUEL_eq : FUEL = 1000000000 := hid_eq _
def loopF (it : Itn) (g : G) (body : E Out) : Nat → Nat → E Out
  | 0, _ => fun _ _ => .bad
  | m + 1, i => fun n S => match it.next i S with
    | none => .bad
    | some none => .ok (.nx n) S
    | some (some d) => match g d n S with
      | .ok n1 S1 => rbind (body n1 S1) fun o S2 => match o with
        | .nx n2 => loopF it g body m (i + 1) n2 S2
        | .ct n2 => loopF it g body m (i + 1) n2 S2
        | .bk n2 => .ok (.nx n2) S2
        | o => .ok o S2
      | .exc c fs S1 => .ok (.er c fs n) S1
      | .bad => .bad
def sFor (f : E Itn) (g : G) (body : E Out) : E Out := sBnd f fun it => loopF it g body FUEL 0
def whileF (t : E Bool) (body : E Out) : Nat → E Out
  | 0 => fun _ _ => .bad
  | m + 1 => sBnd t fun b => if b = true then fun n S => rbind (body n S) fun o S2 => match o with
    | .nx n2 => whileF t body m n2 S2
    | .ct n2 => whileF t body m n2 S2
    | .bk n2 => .ok (.nx n2) S2
    | o => .ok o S2
    else fun n S => .ok (.nx n) S
def sWhile (t : E Bool) (body : E Out) : E Out := whileF t body FUEL
/-- a list comprehension's items, behind the i-th turn -/
def lcF (it : Itn) (g : G) (t : E Bool) (elt : E D) (n : En) : Nat → Nat → List D → Sto → Res (List D)
  | 0, _, _, _ => .bad
  | m + 1, i, acc, S => match it.next i S with
    | none => .bad
    | some none => .ok acc S
    | some (some d) => rbind (g d n S) fun n1 S1 => rbind (t n1 S1) fun b S2 => if b = true then rbind (elt n1 S2) fun y S3 => if acc.length < LINE then lcF it g t elt n m (i + 1) (acc ++ [y]) S3 else .bad else lcF it g t elt n m (i + 1) acc S2
def wipeD (n : En) : List Nat → En
  | [] => n
  | v :: vs => (wipeD n vs).set v none
/-- vs: the slots of the block's own names; the first source is asked outside -/
def eLc (f : E Itn) (vs : List Nat) (g : G) (t : E Bool) (elt : E D) : E D := eBnd f fun it n S => rbind (nox (lcF it g t elt (wipeD n vs) FUEL 0 [] S)) fun ys S' => .ok (.loc S'.length) (S' ++ [.lst ys])
def tTru : E Bool := fun _ S => .ok true S

section
variable {X : Cx} {fa : Gl0} {W : WX} {st : Stmt} {sts : List Stmt} {e tg iter : Expr} {es : List Expr} {pos : Pos}
/-- the iterator J does what it says -/
structure ItOk (R : RC) (it : Itn) (J : It) (p : List Addr) (H : Hp) : Prop where
  stop : ∀ p' H' S', p <+: p' → Tm p H p' H' → RS R p' S' H' → ∀ i, it.next i S' = some none → J.stop i H'
  item : ∀ p' H' S', p <+: p' → Tm p H p' H' → RS R p' S' H' → ∀ i d, it.next i S' = some (some d) → J.go i H' ∧ ∀ x H2, J.yld i H' x H2 → Tm p' H' p' H2 ∧ RS R p' S' H2 ∧ RV R p' H2 d x
theorem ItOk.later {R : RC} {it : Itn} {J : It} {p p1 : List Addr} {H H1 : Hp} (h : ItOk R it J p H) (hp : p <+: p1) (t : Tm p H p1 H1) : ItOk R it J p1 H1 :=
  ⟨fun p' H' S' hp' t' rs => h.stop p' H' S' (hp.trans hp') (t.trans t') rs, fun p' H' S' hp' t' rs => h.item p' H' S' (hp.trans hp') (t.trans t') rs⟩
def xI (R : RC) (W : WX) (f : E Itn) : TI := fun s H Q => ∃ p n S, RS R p S H ∧ RE R p n s H ∧ Aft R p H (f n S) (fun it p' S' H' => ∀ J, ItOk R it J p' H' → Q J H') (fun c dd H' => W c dd s H')
theorem impI {t t' : TI} (h : PI X tg iter t) (m : ∀ s H Q, t' s H Q → t s H Q) : PI X tg iter t' := ⟨fun pins s σ H R I hw => h.run pins s σ H R I (m _ _ _ hw)⟩
/-- a source, by its value in HandS's heap: lists, or tuples -/
inductive SKind | lst | tup
def SrcK (R : RC) (p : List Addr) (H : Hp) (a : Addr) (s : Src) : SKind → Prop
  | .lst => (∃ ds vs, s = .fix false ds ∧ ScrAt R p H a vs ∧ RVs R p H ds vs) ∨ ∃ l, s = .dyn l ∧ p[l]? = some a
  | .tup => ∃ ds vs, s = .fix true ds ∧ TupAt R p H a vs ∧ RVs R p H ds vs
def Src.kd (s : Src) : SKind := if s.tp = true then .tup else .lst
theorem src_of {R : RC} {p : List Addr} {H : Hp} {d : D} {v : V} {s : Src} (r : RV R p H d v) (e : srcOf d = some s) : ∃ a, v = .ref a ∧ SrcK R p H a s s.kd := by
  cases r with
  | tup h q => cases e; exact ⟨_, rfl, _, _, rfl, h, q⟩
  | scr h q => cases e; exact ⟨_, rfl, .inl ⟨_, _, rfl, h, q⟩⟩
  | loc h => cases e; exact ⟨_, rfl, .inr ⟨_, rfl, h⟩⟩
  | _ => exact nomatch e
theorem SrcK.later {R : RC} {p p1 : List Addr} {H H1 : Hp} {a : Addr} {s : Src} {k : SKind} (h : SrcK R p H a s k) (hp : p <+: p1) (t : Tm p H p1 H1) : SrcK R p1 H1 a s k := by
  cases k with
  | lst =>
    rcases h with ⟨ds, vs, e, h, q⟩ | ⟨l, e, h⟩
    · exact .inl ⟨ds, vs, e, t.scr h, q.mono hp t⟩
    · exact .inr ⟨l, e, pre_get hp h⟩
  | tup =>
    obtain ⟨ds, vs, e, h, q⟩ := h
    exact ⟨ds, vs, e, t.tup h, q.mono hp t⟩
def SqK (K : PySem.W.Frag) (H : Hp) (a : Addr) (xs : List V) : SKind → Prop
  | .lst => SqL K H a xs
  | .tup => SqT K H a xs
theorem SrcK.get {R : RC} {p : List Addr} {S : Sto} {H : Hp} {a : Addr} {s : Src} {k : SKind} {xs : List D} (h : SrcK R p H a s k) (rs : RS R p S H) (e : s.get S = some xs) : ∃ vs, SqK R.K H a vs k ∧ RVs R p H xs vs := by
  cases k with
  | lst =>
    rcases h with ⟨ds, vs, rfl, h, q⟩ | ⟨l, rfl, h⟩
    · cases e; exact ⟨vs, h.sq, q⟩
    · obtain ⟨vs, g1, g2⟩ := rs.list h e
      exact ⟨vs, .of g1, g2⟩
  | tup =>
    obtain ⟨ds, vs, rfl, h, q⟩ := h
    cases e; exact ⟨vs, h.sq, q⟩
theorem none_len {R : RC} {p : List Addr} {H : Hp} {ds : List D} {vs : List V} {i : Nat} (r : RVs R p H ds vs) (e : ds[i]? = none) : vs.length ≤ i := by
  rw [← r.length]; exact List.getElem?_eq_none_iff.mp e

theorem it_oneL {R : RC} {p : List Addr} {H : Hp} {a : Addr} {s : Src} (h : SrcK R p H a s .lst) : ItOk R (.one s) (Itl R.K a) p H where
  stop := fun p' H' S' hp t rs i e => by
    obtain ⟨xs, e1, e2⟩ := map_some e
    obtain ⟨vs, g1, g2⟩ := (h.later hp t).get rs e1
    exact ⟨vs, g1, none_len g2 e2⟩
  item := fun p' H' S' hp t rs i d e => by
    obtain ⟨xs, e1, e2⟩ := map_some e
    obtain ⟨vs, g1, g2⟩ := (h.later hp t).get rs e1
    obtain ⟨v, h1, h2⟩ := g2.get e2
    refine ⟨⟨vs, v, g1, h1⟩, fun x H2 y => ?_⟩
    obtain ⟨rfl, y⟩ := y
    have z := y vs g1
    rw [h1] at z; cases z
    exact ⟨Tm.refl, rs, h2⟩
theorem it_oneT {R : RC} {p : List Addr} {H : Hp} {a : Addr} {s : Src} (h : SrcK R p H a s .tup) : ItOk R (.one s) (Itt R.K a) p H where
  stop := fun p' H' S' hp t rs i e => by
    obtain ⟨xs, e1, e2⟩ := map_some e
    obtain ⟨vs, g1, g2⟩ := (h.later hp t).get rs e1
    exact ⟨vs, g1, none_len g2 e2⟩
  item := fun p' H' S' hp t rs i d e => by
    obtain ⟨xs, e1, e2⟩ := map_some e
    obtain ⟨vs, g1, g2⟩ := (h.later hp t).get rs e1
    obtain ⟨v, h1, h2⟩ := g2.get e2
    refine ⟨⟨vs, v, g1, h1⟩, fun x H2 y => ?_⟩
    obtain ⟨rfl, y⟩ := y
    have z := y vs g1
    rw [h1] at z; cases z
    exact ⟨Tm.refl, rs, h2⟩
theorem rev_next {s : Src} {n i : Nat} {S : Sto} {o : Option D} (h : (Itn.rev s n).next i S = some o) : (¬ i < n ∧ o = none) ∨ (i < n ∧ ∃ xs d, s.get S = some xs ∧ xs[n - 1 - i]? = some d ∧ o = some d) := by
  have h' : (if i < n then match s.get S with
    | some xs => match xs[n - 1 - i]? with
      | some d => some (some d)
      | none => none
    | none => none
    else some none) = some o := h
  by_cases c : i < n
  · rw [if_pos c] at h'
    cases e : s.get S with
    | none => rw [e] at h'; cases h'
    | some xs =>
      rw [e] at h'
      dsimp only at h'
      cases e2 : xs[n - 1 - i]? with
      | none => rw [e2] at h'; cases h'
      | some d => rw [e2] at h'; cases h'; exact .inr ⟨c, xs, d, rfl, e2, rfl⟩
  · rw [if_neg c] at h'
    cases h'
    exact .inl ⟨c, rfl⟩
theorem it_revL {R : RC} {p : List Addr} {H : Hp} {a : Addr} {s : Src} {n : Nat} (h : SrcK R p H a s .lst) : ItOk R (.rev s n) (Itv R.K a n) p H where
  stop := fun p' H' S' hp t rs i e => by
    rcases rev_next e with ⟨c, _⟩ | ⟨_, _, _, _, _, z⟩
    · exact Nat.le_of_not_lt c
    · cases z
  item := fun p' H' S' hp t rs i d e => by
    rcases rev_next e with ⟨_, z⟩ | ⟨c, xs, d', e1, e2, z⟩
    · cases z
    · cases z
      obtain ⟨vs, g1, g2⟩ := (h.later hp t).get rs e1
      obtain ⟨v, h1, h2⟩ := g2.get e2
      refine ⟨⟨c, vs, v, g1, h1⟩, fun x H2 y => ?_⟩
      obtain ⟨rfl, y⟩ := y
      have z := y vs g1
      rw [h1] at z; cases z
      exact ⟨Tm.refl, rs, h2⟩
theorem it_revT {R : RC} {p : List Addr} {H : Hp} {a : Addr} {s : Src} {n : Nat} (h : SrcK R p H a s .tup) : ItOk R (.rev s n) (RT.ItvT R.K a n) p H where
  stop := fun p' H' S' hp t rs i e => by
    rcases rev_next e with ⟨c, _⟩ | ⟨_, _, _, _, _, z⟩
    · exact Nat.le_of_not_lt c
    · cases z
  item := fun p' H' S' hp t rs i d e => by
    rcases rev_next e with ⟨_, z⟩ | ⟨c, xs, d', e1, e2, z⟩
    · cases z
    · cases z
      obtain ⟨vs, g1, g2⟩ := (h.later hp t).get rs e1
      obtain ⟨v, h1, h2⟩ := g2.get e2
      refine ⟨⟨c, vs, v, g1, h1⟩, fun x H2 y => ?_⟩
      obtain ⟨rfl, y⟩ := y
      have z := y vs g1
      rw [h1] at z; cases z
      exact ⟨Tm.refl, rs, h2⟩
theorem it_rng {R : RC} {p : List Addr} {H : Hp} {lo : Int} {n : Nat} : ItOk R (.rng lo 1 n) (Itr lo n) p H where
  stop := fun p' H' S' hp t rs i e => by
    have e : (if i < n then some (some (D.int (lo + (i : Nat) * 1))) else some none) = some none := e
    by_cases c : i < n
    · rw [if_pos c] at e; cases e
    · exact Nat.le_of_not_lt c
  item := fun p' H' S' hp t rs i d e => by
    have e : (if i < n then some (some (D.int (lo + (i : Nat) * 1))) else some none) = some (some d) := e
    by_cases c : i < n
    · rw [if_pos c] at e; cases e
      refine ⟨c, fun x H2 y => ?_⟩
      obtain ⟨rfl, rfl⟩ := y
      rw [Int.mul_one]
      exact ⟨Tm.refl, rs, .int _⟩
    · rw [if_neg c] at e; cases e
theorem it_rngC {R : RC} {p : List Addr} {H : Hp} {lo c : Int} {n : Nat} : ItOk R (.rng lo c n) (Itc lo c n) p H where
  stop := fun p' H' S' hp t rs i e => by
    have e : (if i < n then some (some (D.int (lo + (i : Nat) * c))) else some none) = some none := e
    by_cases c : i < n
    · rw [if_pos c] at e; cases e
    · exact Nat.le_of_not_lt c
  item := fun p' H' S' hp t rs i d e => by
    have e : (if i < n then some (some (D.int (lo + (i : Nat) * c))) else some none) = some (some d) := e
    by_cases hc : i < n
    · rw [if_pos hc] at e; cases e
      refine ⟨hc, fun x H2 y => ?_⟩
      obtain ⟨rfl, rfl⟩ := y
      exact ⟨Tm.refl, rs, .int _⟩
    · rw [if_neg hc] at e; cases e
theorem it_str {R : RC} {p : List Addr} {H : Hp} {x : Str} : ItOk R (.str x) (Its x) p H where
  stop := fun p' H' S' hp t rs i e => by
    have e : some ((x.cps[i]?).map fun c => D.str ⟨#[c]⟩) = some none := e
    cases e2 : x.cps[i]? with
    | none => exact Array.getElem?_eq_none_iff.mp e2
    | some c => rw [e2] at e; cases e
  item := fun p' H' S' hp t rs i d e => by
    have e : some ((x.cps[i]?).map fun c => D.str ⟨#[c]⟩) = some (some d) := e
    cases e2 : x.cps[i]? with
    | none => rw [e2] at e; cases e
    | some c =>
      rw [e2] at e; cases e
      refine ⟨(Array.getElem?_eq_some_iff.mp e2).1, fun v H2 y => ?_⟩
      obtain ⟨rfl, c', e3, rfl⟩ := y
      rw [e2] at e3; cases e3
      exact ⟨Tm.refl, rs, .str _⟩
theorem kD_ok {R : RC} {p : List Addr} {H : Hp} (k : Key) : RV R p H (kD k) (kV k) := by
  cases k with
  | inl i => exact .int i
  | inr x => exact .str x
theorem pair_at1 {A B : Type} {F : A → B → Prop} : ∀ {l : List A} {m : List B}, Paired F l m → ∀ {i : Nat} {a : A}, l[i]? = some a → ∃ c, m[i]? = some c ∧ F a c
  | _, _, .nil, i, a, h => by simp at h
  | _, _, .cons r t, 0, a, h => by simp at h; subst h; exact ⟨_, rfl, r⟩
  | _, _, .cons r t, i + 1, a, h => by
    obtain ⟨c, h1, h2⟩ := pair_at1 t (i := i) (by simpa using h)
    exact ⟨c, by simpa using h1, h2⟩
theorem it_keys {R : RC} {p : List Addr} {H : Hp} {a : Addr} {o : Obj} {us : List (Key × V)} {l : Nat} (hl : p[l]? = some a) (hz : H a = some (.frz o (.dK us))) : ItOk R (.keys l) (Itk a o us) p H where
  stop := fun p' H' S' hp t rs i e => by
    have e : (match S'[l]? with | some (.dctZ kvs) => some ((kvs[i]?).map fun kv => kD kv.1) | _ => none) = some none := e
    have hz' := t.fz a o _ hz
    split at e
    · rename_i kvs es
      obtain ⟨o', us', h1, h2⟩ := rs.at_ l _ a es (pre_get hp hl)
      rw [hz'] at h1
      cases h1
      refine ⟨hz', ?_⟩
      have e2 : kvs[i]? = none := by
        cases e3 : kvs[i]? with
        | none => rfl
        | some kv => rw [e3] at e; cases e
      rw [← paired_length h2]
      exact List.getElem?_eq_none_iff.mp e2
    · cases e
  item := fun p' H' S' hp t rs i d e => by
    have e : (match S'[l]? with | some (.dctZ kvs) => some ((kvs[i]?).map fun kv => kD kv.1) | _ => none) = some (some d) := e
    have hz' := t.fz a o _ hz
    split at e
    · rename_i kvs es
      obtain ⟨o', us', h1, h2⟩ := rs.at_ l _ a es (pre_get hp hl)
      rw [hz'] at h1
      cases h1
      cases e3 : kvs[i]? with
      | none => rw [e3] at e; cases e
      | some kv =>
        rw [e3] at e
        cases e
        obtain ⟨c, h3, h4, _⟩ := pair_at1 h2 e3
        refine ⟨⟨hz', (List.getElem?_eq_some_iff.mp h3).1⟩, fun x H2 y => ?_⟩
        obtain ⟨rfl, k, v, h5, rfl⟩ := y
        rw [h3] at h5
        cases h5
        refine ⟨Tm.refl, rs, ?_⟩
        show RV R p' _ (kD kv.1) (kV k)
        rw [h4]
        exact kD_ok _
    · cases e
/-- a new tuple for each item -/
theorem new_item {R : RC} {p : List Addr} {S : Sto} {H : Hp} {T : Addr} {ds : List D} {vs : List V} (rs : RS R p S H) (n : H T = none) (r : RVs R p H ds vs) : Tm p H p (upd H T (.tup vs)) ∧ RS R p S (upd H T (.tup vs)) ∧ RV R p (upd H T (.tup vs)) (.tup ds) (.ref T) :=
  ⟨Tm.new n, rs.newT n, .tup (.inl ⟨rs.nin n, .inl upd_same⟩) (r.mono (List.prefix_refl _) (Tm.new n))⟩
theorem frz_inj {o o' : Obj} {u u' : HO} (h : some (HO.frz o u) = some (HO.frz o' u')) : o' = o := by injection h with h; injection h with h1 _; exact h1.symm
theorem it_keysN {R : RC} {p : List Addr} {H : Hp} {a : Addr} {o : Obj} {l : Nat} (hl : p[l]? = some a) (hz : ∃ xs : List (NestedKey × Addr × Value), H a = some (.frz o (.ext (RawN R.P R.w a xs)))) : ItOk R (.keysN l) (ItkN R.P R.w a o) p H where
  stop := fun p' H' S' hp t rs i e => by
    have e : (match S'[l]? with | some (.dcNZ kvs) => some ((kvs[i]?).map fun kv => unN kv.1) | _ => none) = some none := e
    obtain ⟨xs0, hz⟩ := hz
    have hz' := t.fz a o _ hz
    split at e
    · rename_i kvs es
      obtain ⟨o', xs, h1, _, _, h2⟩ := rs.at_ l _ a es (pre_get hp hl)
      have ho : o' = o := frz_inj (hz'.symm.trans h1)
      subst ho
      refine ⟨xs, h1, ?_⟩
      have e2 : kvs[i]? = none := by
        cases e3 : kvs[i]? with
        | none => rfl
        | some kv => rw [e3] at e; cases e
      rw [← paired_length h2]
      exact List.getElem?_eq_none_iff.mp e2
    · cases e
  item := fun p' H' S' hp t rs i d e => by
    have e : (match S'[l]? with | some (.dcNZ kvs) => some ((kvs[i]?).map fun kv => unN kv.1) | _ => none) = some (some d) := e
    obtain ⟨xs0, hz⟩ := hz
    have hz' := t.fz a o _ hz
    split at e
    · rename_i kvs es
      obtain ⟨o', xs, h1, _, _, h2⟩ := rs.at_ l _ a es (pre_get hp hl)
      have ho : o' = o := frz_inj (hz'.symm.trans h1)
      subst ho
      cases e3 : kvs[i]? with
      | none => rw [e3] at e; cases e
      | some kv =>
        rw [e3] at e
        cases e
        obtain ⟨y, h3, h4, ⟨ds, k1, k2, k3⟩, _⟩ := pair_at1 h2 e3
        refine ⟨⟨xs, h1, (List.getElem?_eq_some_iff.mp h3).1⟩, fun x H2 yy => ?_⟩
        obtain ⟨rfl, hy⟩ := yy
        obtain ⟨y', h5, rfl⟩ := hy xs h1
        rw [h3] at h5
        cases h5
        refine ⟨Tm.refl, rs, ?_⟩
        show RV R p' _ (unN kv.1) (.ref y.2.1)
        rw [h4, unN_of k2]
        exact k1
    · cases e
theorem it_items {R : RC} {p : List Addr} {H : Hp} {a : Addr} {o : Obj} {us : List (Key × V)} {l : Nat} (hl : p[l]? = some a) (hz : H a = some (.frz o (.dK us))) : ItOk R (.items l) (Iti a o us) p H where
  stop := fun p' H' S' hp t rs i e => by
    have e : (match S'[l]? with | some (.dctZ kvs) => some ((kvs[i]?).map fun kv => D.tup [kD kv.1, kv.2]) | _ => none) = some none := e
    have hz' := t.fz a o _ hz
    split at e
    · rename_i kvs es
      obtain ⟨o', us', h1, h2⟩ := rs.at_ l _ a es (pre_get hp hl)
      rw [hz'] at h1
      cases h1
      refine ⟨hz', ?_⟩
      have e2 : kvs[i]? = none := by
        cases e3 : kvs[i]? with
        | none => rfl
        | some kv => rw [e3] at e; cases e
      rw [← paired_length h2]
      exact List.getElem?_eq_none_iff.mp e2
    · cases e
  item := fun p' H' S' hp t rs i d e => by
    have e : (match S'[l]? with | some (.dctZ kvs) => some ((kvs[i]?).map fun kv => D.tup [kD kv.1, kv.2]) | _ => none) = some (some d) := e
    have hz' := t.fz a o _ hz
    split at e
    · rename_i kvs es
      obtain ⟨o', us', h1, h2⟩ := rs.at_ l _ a es (pre_get hp hl)
      rw [hz'] at h1
      cases h1
      cases e3 : kvs[i]? with
      | none => rw [e3] at e; cases e
      | some kv =>
        rw [e3] at e
        cases e
        obtain ⟨c, h3, h4, rv⟩ := pair_at1 h2 e3
        refine ⟨⟨hz', (List.getElem?_eq_some_iff.mp h3).1⟩, fun x H2 y => ?_⟩
        obtain ⟨T, k, v, h5, rfl, hn, rfl⟩ := y
        rw [h3] at h5
        cases h5
        exact new_item rs hn (.cons (by rw [h4]; exact kD_ok _) (.cons rv .nil))
    · cases e
theorem it_itemsN {R : RC} {p : List Addr} {H : Hp} {a : Addr} {o : Obj} {l : Nat} (hl : p[l]? = some a) (hz : ∃ xs : List (NestedKey × Addr × Value), H a = some (.frz o (.ext (RawN R.P R.w a xs)))) : ItOk R (.itemsN l) (ItiN R.P R.w a o) p H where
  stop := fun p' H' S' hp t rs i e => by
    have e : (match S'[l]? with | some (.dcNZ kvs) => some ((kvs[i]?).map fun kv => D.tup [unN kv.1, kv.2]) | _ => none) = some none := e
    obtain ⟨xs0, hz⟩ := hz
    have hz' := t.fz a o _ hz
    split at e
    · rename_i kvs es
      obtain ⟨o', xs, h1, _, _, h2⟩ := rs.at_ l _ a es (pre_get hp hl)
      have ho : o' = o := frz_inj (hz'.symm.trans h1)
      subst ho
      refine ⟨xs, h1, ?_⟩
      have e2 : kvs[i]? = none := by
        cases e3 : kvs[i]? with
        | none => rfl
        | some kv => rw [e3] at e; cases e
      rw [← paired_length h2]
      exact List.getElem?_eq_none_iff.mp e2
    · cases e
  item := fun p' H' S' hp t rs i d e => by
    have e : (match S'[l]? with | some (.dcNZ kvs) => some ((kvs[i]?).map fun kv => D.tup [unN kv.1, kv.2]) | _ => none) = some (some d) := e
    obtain ⟨xs0, hz⟩ := hz
    have hz' := t.fz a o _ hz
    split at e
    · rename_i kvs es
      obtain ⟨o', xs, h1, _, _, h2⟩ := rs.at_ l _ a es (pre_get hp hl)
      have ho : o' = o := frz_inj (hz'.symm.trans h1)
      subst ho
      cases e3 : kvs[i]? with
      | none => rw [e3] at e; cases e
      | some kv =>
        rw [e3] at e
        cases e
        obtain ⟨y, h3, h4, ⟨ds, k1, k2, k3⟩, v0, rv, rel⟩ := pair_at1 h2 e3
        refine ⟨⟨xs, h1, (List.getElem?_eq_some_iff.mp h3).1⟩, fun x H2 yy => ?_⟩
        obtain ⟨T, b, v, rfl, hn, rfl, hy⟩ := yy
        obtain ⟨y', h5, rfl, hv⟩ := hy xs h1
        rw [h3] at h5
        cases h5
        have e5 : v = v0 := hv.inj rel
        subst e5
        exact new_item rs hn (.cons (by rw [h4, unN_of k2]; exact k1) (.cons rv .nil))
    · cases e
theorem it_enum {R : RC} {p : List Addr} {H : Hp} {a : Addr} {s : Src} (h : SrcK R p H a s .lst) : ItOk R (.enum s) (Ite R.K a) p H where
  stop := fun p' H' S' hp t rs i e => by
    obtain ⟨xs, e1, e2⟩ := map_some e
    obtain ⟨vs, g1, g2⟩ := (h.later hp t).get rs e1
    refine ⟨vs, g1, none_len g2 ?_⟩
    cases e3 : xs[i]? with
    | none => rfl
    | some d => rw [e3] at e2; cases e2
  item := fun p' H' S' hp t rs i d e => by
    obtain ⟨xs, e1, e2⟩ := map_some e
    obtain ⟨vs, g1, g2⟩ := (h.later hp t).get rs e1
    obtain ⟨d0, e3, e4⟩ := map_some e2
    subst e4
    obtain ⟨v, h1, h2⟩ := g2.get e3
    refine ⟨⟨vs, v, g1, h1⟩, fun x H2 y => ?_⟩
    obtain ⟨T, x', rfl, hn, rfl, y⟩ := y
    have z := y vs g1
    rw [h1] at z; cases z
    exact new_item rs hn (.cons (.int _) (.cons h2 .nil))
theorem zip_next {s t : Src} {i : Nat} {S : Sto} {o : Option D} (h : (Itn.zip s t).next i S = some o) : ∃ xs ys, s.get S = some xs ∧ t.get S = some ys ∧ ((∃ x y, xs[i]? = some x ∧ ys[i]? = some y ∧ o = some (.tup [x, y])) ∨ ((xs[i]? = none ∨ ys[i]? = none) ∧ o = none)) := by
  have h' : (match s.get S, t.get S with
    | some xs, some ys => match xs[i]?, ys[i]? with
      | some x, some y => some (some (D.tup [x, y]))
      | _, _ => some none
    | _, _ => none) = some o := h
  cases e1 : s.get S with
  | none => rw [e1] at h'; cases h'
  | some xs =>
    cases e2 : t.get S with
    | none => rw [e1, e2] at h'; cases h'
    | some ys =>
      rw [e1, e2] at h'
      dsimp only at h'
      refine ⟨xs, ys, rfl, rfl, ?_⟩
      cases e3 : xs[i]? with
      | none => rw [e3] at h'; cases h'; exact .inr ⟨.inl rfl, rfl⟩
      | some x =>
        cases e4 : ys[i]? with
        | none => rw [e3, e4] at h'; cases h'; exact .inr ⟨.inr rfl, rfl⟩
        | some y => rw [e3, e4] at h'; cases h'; exact .inl ⟨x, y, rfl, rfl, rfl⟩
theorem it_zipL {R : RC} {p : List Addr} {H : Hp} {a b : Addr} {s t : Src} (ha : SrcK R p H a s .lst) (hb : SrcK R p H b t .lst) : ItOk R (.zip s t) (Itz R.K a b) p H where
  stop := fun p' H' S' hp tm rs i e => by
    obtain ⟨xs, ys, e1, e2, ⟨_, _, _, _, z⟩ | ⟨e3, _⟩⟩ := zip_next e
    · cases z
    · obtain ⟨vs, g1, g2⟩ := (ha.later hp tm).get rs e1
      obtain ⟨us, f1, f2⟩ := (hb.later hp tm).get rs e2
      rcases e3 with e3 | e3
      · exact ⟨vs, us, g1, f1, .inl (none_len g2 e3)⟩
      · exact ⟨vs, us, g1, f1, .inr (none_len f2 e3)⟩
  item := fun p' H' S' hp tm rs i d e => by
    obtain ⟨xs, ys, e1, e2, ⟨x, y, e3, e4, z⟩ | ⟨_, z⟩⟩ := zip_next e
    · cases z
      obtain ⟨vs, g1, g2⟩ := (ha.later hp tm).get rs e1
      obtain ⟨us, f1, f2⟩ := (hb.later hp tm).get rs e2
      obtain ⟨v, h1, h2⟩ := g2.get e3
      obtain ⟨u, k1, k2⟩ := f2.get e4
      refine ⟨⟨vs, us, v, u, g1, f1, h1, k1⟩, fun x H2 y => ?_⟩
      obtain ⟨T, x', y', rfl, hn, rfl, y1, y2⟩ := y
      have z := y1 vs g1
      rw [h1] at z; cases z
      have z := y2 us f1
      rw [k1] at z; cases z
      exact new_item rs hn (.cons h2 (.cons k2 .nil))
    · cases z
theorem it_zipT {R : RC} {p : List Addr} {H : Hp} {a b : Addr} {s t : Src} (ha : SrcK R p H a s .tup) (hb : SrcK R p H b t .tup) : ItOk R (.zip s t) (RZ.ItzT R.K a b) p H where
  stop := fun p' H' S' hp tm rs i e => by
    obtain ⟨xs, ys, e1, e2, ⟨_, _, _, _, z⟩ | ⟨e3, _⟩⟩ := zip_next e
    · cases z
    · obtain ⟨vs, g1, g2⟩ := (ha.later hp tm).get rs e1
      obtain ⟨us, f1, f2⟩ := (hb.later hp tm).get rs e2
      rcases e3 with e3 | e3
      · exact ⟨vs, us, g1, f1, .inl (none_len g2 e3)⟩
      · exact ⟨vs, us, g1, f1, .inr (none_len f2 e3)⟩
  item := fun p' H' S' hp tm rs i d e => by
    obtain ⟨xs, ys, e1, e2, ⟨x, y, e3, e4, z⟩ | ⟨_, z⟩⟩ := zip_next e
    · cases z
      obtain ⟨vs, g1, g2⟩ := (ha.later hp tm).get rs e1
      obtain ⟨us, f1, f2⟩ := (hb.later hp tm).get rs e2
      obtain ⟨v, h1, h2⟩ := g2.get e3
      obtain ⟨u, k1, k2⟩ := f2.get e4
      refine ⟨⟨vs, us, v, u, g1, f1, h1, k1⟩, fun x H2 y => ?_⟩
      obtain ⟨T, x', y', rfl, hn, rfl, y1, y2⟩ := y
      have z := y1 vs g1
      rw [h1] at z; cases z
      have z := y2 us f1
      rw [k1] at z; cases z
      exact new_item rs hn (.cons h2 (.cons k2 .nil))
    · cases z
end
end Jm

set_option Elab.async false
set_option linter.all false
set_option maxRecDepth 100000
set_option maxHeartbeats 4000000
/-! Jm, part Ka: enumerate of a tuple. -/
noncomputable section
namespace Jm
open PySem PySem.Spec PyProof.Rows L2
open PySem.AutoSeq1 (wpAny_loadPart')
/-- enumerate(t) of a tuple, made -/
theorem enum_newT (l : Addr) (items : Array Value) (n : Nat) (o : Obj) (hc : o.cls = .type "tuple") (hd : o.data = .seq items n) :
    Meets (Builtin.«enumerate.__new__» ⟨[.type "enumerate", .ref l], []⟩) (fun _ R s => s.heap.get? l = some o ∧
      R (.ok (.ret (.ref (s.heap.push { cls := .type "tuple_iterator", data := .fields #[.ref l, .int 0 0] }).objs.size)))
        { s with heap := (s.heap.push { cls := .type "tuple_iterator", data := .fields #[.ref l, .int 0 0] }).push { cls := .type "enumerate", data := .fields #[.none, .bool false, .ref s.heap.objs.size, rawInt 0, .none, .none] } }) :=
  .of_wp fun prog w A R s h => by
    obtain ⟨cl, dct, dt, sl⟩ := o
    have hc : cl = .type "tuple" := hc
    have hd : dt = .seq items n := hd
    subst hc hd
    obtain ⟨hp, g, d, tk, os⟩ := s; obtain ⟨hl, h⟩ := h
    have hsub := sub_enumerate
    have hT : Heap.IsTuple (Shared.heap ⟨hp, g, d, tk, os⟩) l items := ⟨_, hl, rfl, n, rfl⟩
    wp_walk using wpAny_loadPart' hl
    refine wpAny_stack_any fun st => wpAny_pure ?_
    split
    · rename_i c _ _ _ _ _
      cases (c == Value.type "enumerate") <;> (wp_walk using wpAny_loadPart' hl, wpAny_pyIter_tuple hT; exact ⟨_, rfl, h⟩)
    · wp_walk using wpAny_loadPart' hl, wpAny_pyIter_tuple hT
      exact ⟨_, rfl, h⟩
section
variable {prog : Program} {w : World} {A : Around} {E : Value → Shared → Prop} {s : Shared}
theorem call_enumT {l : Addr} {items : Array Value} {Q : Value → Shared → Prop} (hL : s.heap.IsTuple l items)
    (h : ∀ g, IsEnum g (s.heap.objs.size + 1) s.heap.objs.size 0 .none → g.IsTupleIter s.heap.objs.size l 0 → (∀ b o, s.heap.get? b = some o → g.get? b = some o) → Q (.ref (s.heap.objs.size + 1)) { s with heap := g }) :
    wpAny (model prog w) A (call (.type "enumerate") [.ref l]) Q E s := by
  obtain ⟨o, hl, hc, n, hd⟩ := hL
  refine callType_new F.called_enumerate (by decide) (F.typeCall_enumerate_1 _) (F.newCall_enumerate_1 _) (fun obj => F.args_object_init_2 obj _) F.entry_enumerate_new (enum_newT l items n o hc hd) ⟨hl, ?_⟩
  generalize hg : s.heap.push { cls := .type "tuple_iterator", data := .fields #[.ref l, .int 0 0] } = g
  have hz : g.objs.size = s.heap.objs.size + 1 := by rw [← hg]; exact Heap.size_push ..
  have he := Heap.get?_push_size g (o := { cls := .type "enumerate", data := .fields #[.none, .bool false, .ref s.heap.objs.size, rawInt 0, .none, .none] }) rfl
  show _ ∧ _
  rw [hz] at he ⊢
  have ho : g.get? s.heap.objs.size = some { cls := .type "tuple_iterator", data := .fields #[.ref l, .int 0 0] } := by rw [← hg]; exact Heap.get?_push_size _ rfl
  exact ⟨⟨_, he, rfl⟩, h _ he ⟨_, Heap.get?_push_of_some _ ho, rfl, rfl⟩ fun b o x => Heap.get?_push_of_some _ (by rw [← hg]; exact Heap.get?_push_of_some _ x)⟩
end
/-- the tuple at a, each item in a new pair -/
def IteT (K : PySem.W.Frag) (a : Addr) : It :=
  ⟨fun i H => ∃ (xs : List V) (x : V), SqT K H a xs ∧ xs[i]? = some x, fun i H v H' => ∃ T x, v = .ref T ∧ H T = none ∧ H' = upd H T (.tup [.int (i : Nat), x]) ∧ ∀ xs, SqT K H a xs → xs[i]? = some x, fun i H => ∃ xs : List V, SqT K H a xs ∧ xs.length ≤ i⟩
theorem turn_enumT {P : Program} {w : World} {K : PySem.W.Frag} {elts : List Expr} {kk : Nat} {tpos : Pos} (a e it : Addr) :
    Turn P w K (.Tuple elts kk tpos) (IteT K a) [e, it] e (fun i h => (∃ old, IsEnum h e it ((i : Nat) : Int) old) ∧ h.IsTupleIter it a i ∧ e ≠ it) where
  mem := by simp
  obj := fun i h ⟨⟨old, he⟩, ⟨o, ho, hc, hd⟩, _⟩ b hb => by
    rcases (show b = e ∨ b = it by simpa using hb) with rfl | rfl
    · exact ⟨_, he, fun v q => nomatch q⟩
    · exact ⟨o, ho, fun v q => by rw [hd] at q; cases q⟩
  keep := fun i h h' ⟨⟨old, he⟩, hi, hne⟩ k => ⟨⟨old, k e (by simp) _ he⟩, hi.at fun o q => k it (by simp) o q, hne⟩
  item := by
    intro X hP hw hK hc i pins s σ H E I hf st hg
    subst hP hw hK
    obtain ⟨⟨old, he⟩, hit, hne⟩ := st
    obtain ⟨xs, x, hq, hx⟩ := hg
    obtain ⟨its, rv, p, hz⟩ := I.tuple hq
    have p : s.heap.IsTuple a its.toArray := p
    obtain ⟨u, hu, ru⟩ := rv.get hx
    have hlt : i < its.toArray.size := by simpa using (List.getElem?_eq_some_iff.mp hu).1
    have nea : e ≠ a := fun z => by
      obtain ⟨o, ho, hc, _⟩ := p
      rw [← z] at ho
      rw [show s.heap.get? e = some _ from he] at ho
      cases ho; exact nomatch (Value.type.inj hc)
    have nia : a ≠ it := fun z => by
      obtain ⟨o, ho, hc, _⟩ := p
      obtain ⟨o2, ho2, hc2, _⟩ := hit
      rw [z, ho2] at ho
      cases ho
      rw [hc2] at hc; exact nomatch (Value.type.inj hc)
    have big : ∀ b, b = e ∨ b = it → b < s.heap.objs.size := fun b hb => by
      rcases hb with rfl | rfl
      · exact Heap.lt_size he
      · obtain ⟨_, q, _⟩ := hit; exact Heap.lt_size q
    refine wpAny_pyNext_enum_itemD (Draws.tuple (A := X.A.in1) (I.ok.hd hc) it a nia its.toArray) he ⟨hit, p⟩ hlt hne (by simp; exact ⟨hne, nea⟩) fun y g tk hy ho hst hT _ hk => ?_
    have ey : y = u := by
      have : its[i]? = some y := by simpa using hy
      rw [hu] at this; cases this; rfl
    subst ey
    refine ⟨_, rfl, wpAny_letOwnedTupleGo_enum (s := { s with heap := g, toks := tk + 1 }) ho fun g2 he2 sb => ?_⟩
    have hT2 := (sb.2 _ (Nat.ne_of_gt (big e (.inl rfl)))).trans hT
    have new : ObjOk X.prog X.w (upd H s.heap.objs.size (.tup [.int (i : Nat), x])) g2 s.heap.objs.size (.tup [.int (i : Nat), x]) :=
      ⟨by show 2 ≤ sizeLine; decide, [.int i tk, y], .cons ⟨_, rfl⟩ (.cons ru .nil), _, hT2, rfl, _, rfl⟩
    have I1 := I.turnedNew (t' := tk + 1) (ch := [e, it]) (fun b ob hb q => (sb.2 b (fun z => hb (by simp [z]))).trans (hk b ob (fun z => hb (by simp [z])) (fun z => hb (by simp [z])) q)) hf (Nat.le_refl _) new
    refine ⟨.ref s.heap.objs.size, _, I1, rfl, ⟨_, x, rfl, I.hok.fresh (Nat.le_refl _), rfl, fun ys hy => by rw [I.tuple_inj hy hq]; exact hx⟩, ⟨⟨y, ?_⟩, hst.1.at fun o q => (sb.2 it (Ne.symm hne)).trans q, hne⟩, fun b hb => ?_⟩
    · rw [show ((i + 1 : Nat) : Int) = (i : Int) + 1 by omega]; exact he2
    · have lt := big b (by simpa using hb)
      rw [upd_ne (fun z => Nat.lt_irrefl _ (by rw [z] at lt; exact lt))]
      exact (hf b hb).1
  done := by
    intro X hP hw hK hc i pins s σ H E I hf st hg
    subst hP hw hK
    obtain ⟨⟨old, he⟩, hit, hne⟩ := st
    obtain ⟨xs, hq, hx⟩ := hg
    obtain ⟨its, rv, p, hz⟩ := I.tuple hq
    have p : s.heap.IsTuple a its.toArray := p
    obtain ⟨f0, f1, f2, f3, f4, f5⟩ := hf it (by simp)
    have hl := rv.length
    have hT : s.TypeIs (.ref e) "enumerate" := ⟨_, he, rfl⟩
    unfold pyNext
    refine wpAny_bind (wpAny_attempt (wpAny_callSpecial?_slot (name := Str.ofString "__next__") hT F.slot_enumerate_next (wpAny_call_entry F.slot_enumerate_next hT F.entry_enumerate_next ?_ (F.args_enumerate_next_1 _))))
    show wpAny _ _ (field (.ref e) 2 >>= fun _ => _) _ _ _
    refine wpAny_bind (wpAny_field he rfl (x := .ref it) rfl ?_)
    refine wpAny_bind (wpAny_nextOf_tuple_end (I.ok.hd hc) hit p (by simp; omega) fun g x eb ⟨o, ho, hc2⟩ => ?_)
    refine wpAny_bind (wpAny_isInstance (T := "StopIteration") (b := true) ⟨o, ho, hc2⟩ isSubtype_stop ?_)
    exact wpAny_pure ⟨rfl, I.turned (t' := s.toks) (fun b o hb q => eb b o hb q) f0 f1 f3 f4 f5⟩
  self := fun A i s Q E ⟨⟨_, he⟩, _⟩ h => wpAny_pyIter_enum he h
/-- enumerate over a list or a tuple -/
def iEnumA (K : PySem.W.Frag) (ta : TA) : TI := fun σ H R => ta σ H fun vs H1 => ∃ a xs, vs = [.ref a] ∧ ((SqL K H1 a xs ∧ R (Ite K a) H1) ∨ (SqT K H1 a xs ∧ R (IteT K a) H1))
theorem pi_enumA {X : Cx} {e : Expr} {ta : TA} {p pos tpos : Pos} {elts : List Expr} {kk : Nat} (hg : Gl X "enumerate") (hm : X.mg "enumerate" = none) (ha : PA X [e] ta) (hs : starEach [e] X.env = [(false, eval e X.env)]) :
    PI X (.Tuple elts kk tpos) (.Call (.Name "enumerate" p) [e] [] pos) (iEnumA X.K ta) := by
  constructor
  intro pins s σ H R I h
  refine Call_ (ld_blt I hg hm boot_enumerate (PyProof.Rows.callWith_type1 (thn (ha.run pos pins s σ H _ I h) fun us s1 ⟨vs, H1, I1, r1, a, xs, ex, hq⟩ => ?_) hs rfl))
  subst ex
  rw [Vals.ref1 r1]
  have le : ∀ b ∈ [s1.heap.objs.size + 1, s1.heap.objs.size], FpOk X pins H1 b := fun b hb => by
    have le : s1.heap.objs.size ≤ b := by
      rcases (show b = s1.heap.objs.size + 1 ∨ b = s1.heap.objs.size by simpa using hb) with rfl | rfl <;> omega
    exact I1.fpOk le (I1.hok.fresh le)
  rcases hq with ⟨hq, q⟩ | ⟨hq, q⟩
  · obtain ⟨its, rv, p', hz⟩ := I1.list hq
    exact call_enumerate_list p'.isList fun g he hit _ hk => wpAny_pyIter_enum he ⟨s1.heap.objs.size + 1, [s1.heap.objs.size + 1, s1.heap.objs.size], _, _, H1, rfl, I1.kept (t' := s1.toks) hk, turn_enum a (s1.heap.objs.size + 1) s1.heap.objs.size, ⟨⟨.none, he⟩, hit, Nat.succ_ne_self _⟩, le, q⟩
  · obtain ⟨its, rv, p', hz⟩ := I1.tuple hq
    exact call_enumT p' fun g he hit hk => wpAny_pyIter_enum he ⟨s1.heap.objs.size + 1, [s1.heap.objs.size + 1, s1.heap.objs.size], _, _, H1, rfl, I1.kept (t' := s1.toks) hk, turn_enumT a (s1.heap.objs.size + 1) s1.heap.objs.size, ⟨⟨.none, he⟩, hit, Nat.succ_ne_self _⟩, le, q⟩
theorem it_enumT {R : RC} {p : List Addr} {H : Hp} {a : Addr} {s : Src} (h : SrcK R p H a s .tup) : ItOk R (.enum s) (IteT R.K a) p H where
  stop := fun p' H' S' hp t rs i e => by
    obtain ⟨xs, e1, e2⟩ := map_some e
    obtain ⟨vs, g1, g2⟩ := (h.later hp t).get rs e1
    refine ⟨vs, g1, none_len g2 ?_⟩
    cases e3 : xs[i]? with
    | none => rfl
    | some d => rw [e3] at e2; cases e2
  item := fun p' H' S' hp t rs i d e => by
    obtain ⟨xs, e1, e2⟩ := map_some e
    obtain ⟨vs, g1, g2⟩ := (h.later hp t).get rs e1
    obtain ⟨d0, e3, e4⟩ := map_some e2
    subst e4
    obtain ⟨v, h1, h2⟩ := g2.get e3
    refine ⟨⟨vs, v, g1, h1⟩, fun x H2 y => ?_⟩
    obtain ⟨T, x', rfl, hn, rfl, y⟩ := y
    have z := y vs g1
    rw [h1] at z; cases z
    exact new_item rs hn (.cons (.int _) (.cons h2 .nil))
end Jm

set_option Elab.async false
set_option linter.all false
set_option maxRecDepth 100000
set_option maxHeartbeats 4000000
/-! Jm, part K: sources of loops; for, while, list comprehensions. -/
noncomputable section
namespace Jm
open PySem PySem.Spec PyProof.Rows L2
/-- the source of a value and how many items it has -/
def srcLen (d : D) (S : Sto) : Option (Src × Nat) := match srcOf d with
  | some s => (s.get S).map fun xs => (s, xs.length)
  | none => none
/-- the dict that a value is, frozen as soon as it is walked -/
def keyIt (d : D) (S : Sto) : Option (Itn × Sto) := match d with
  | .loc l => match S[l]? with
    | some (.dct kvs) => some (.keys l, S.set l (.dctZ kvs))
    | some (.dctZ _) => some (.keys l, S)
    | some (.dcN kvs) => some (.keysN l, S.set l (.dcNZ kvs))
    | some (.dcNZ _) => some (.keysN l, S)
    | _ => none
  | _ => none
def valIt (d : D) : E Itn := fun _ S => match d with
  | .str x => .ok (.str x) S
  | d => match keyIt d S with
    | some (it, S') => .ok it S'
    | none => match srcLen d S with
    | some (s, _) => .ok (.one s) S
    | none => .bad
def iVal (f : E D) : E Itn := eBnd f valIt
/-- the pairs of a dict, frozen as soon as it is walked -/
def itmIt (d : D) : E Itn := fun _ S => match d with
  | .loc l => match S[l]? with
    | some (.dct kvs) => .ok (.items l) (S.set l (.dctZ kvs))
    | some (.dctZ _) => .ok (.items l) S
    | some (.dcN kvs) => .ok (.itemsN l) (S.set l (.dcNZ kvs))
    | some (.dcNZ _) => .ok (.itemsN l) S
    | _ => .bad
  | _ => .bad
def iItm (f : E D) : E Itn := eBnd f itmIt
/-- j lies within 2 ^ 62, said so that it is reckoned fast and stops at an unknown int -/
def rOk (j : Int) : Bool := if j < 0 then decide ((-j - 1).toNat.log2 < 62) else decide (j.toNat.log2 < 62)
theorem log_lt {n k : Nat} (hk : 0 < k) : n.log2 < k ↔ n < 2 ^ k := by
  by_cases h : n = 0
  · subst h
    have : 0 < 2 ^ k := Nat.pow_pos (by decide)
    simp [hk, this]
  · exact Nat.log2_lt h
theorem rOk_eq (j : Int) : rOk j = decide (-(2 ^ 62) ≤ j ∧ j < 2 ^ 62) := by
  unfold rOk
  have e1 := log_lt (n := (-j - 1).toNat) (k := 62) (by decide)
  have e2 := log_lt (n := j.toNat) (k := 62) (by decide)
  have e3 : (2 : Nat) ^ 62 = 4611686018427387904 := by decide
  have e4 : (2 : Int) ^ 62 = 4611686018427387904 := by decide
  rw [e3] at e1 e2
  rw [e4]
  split <;> rw [decide_eq_decide]
  · rw [e1]; omega
  · rw [e2]; omega
theorem rOk_of {j : Int} (h : rOk j = true) : -(2 ^ 62) ≤ j ∧ j < 2 ^ 62 := by
  rw [rOk_eq] at h
  exact of_decide_eq_true h
def rng1 (ds : List D) : E Itn := fun _ S => match ds with
  | [.int j] => if rOk j = true then .ok (.rng 0 1 j.toNat) S else .bad
  | _ => .bad
def rng2 (ds : List D) : E Itn := fun _ S => match ds with
  | [.int i, .int j] => if (rOk i && rOk j) = true then .ok (.rng i 1 (j - i).toNat) S else .bad
  | _ => .bad
def rng3 (ds : List D) : E Itn := fun _ S => match ds with
  | [.int i, .int j, .int c] => if (c == -1 && (rOk i && rOk j)) = true then .ok (.rng i (-1) (i - j).toNat) S else if (c == 2 && (rOk i && rOk j)) = true then .ok (.rng i 2 ((j - i + 1) / 2).toNat) S else .bad
  | _ => .bad
def iRng (k : List D → E Itn) (fs : List (E D)) : E Itn := eBnd (eAll fs) k
def revIt (d : D) : E Itn := fun _ S => match srcLen d S with
  | some (s, n) => .ok (.rev s n) S
  | none => .bad
def enuIt (d : D) : E Itn := fun _ S => match srcLen d S with
  | some (s, _) => .ok (.enum s) S
  | none => .bad
def zipIt (d d' : D) : E Itn := fun _ S => match srcLen d S, srcLen d' S with
  | some (s, _), some (t, _) => if s.tp = t.tp then .ok (.zip s t) S else .bad
  | _, _ => .bad
def iRevd (f : E D) : E Itn := eBnd f revIt
def iEnum (f : E D) : E Itn := eBnd f enuIt
def iZip (f g : E D) : E Itn := eBnd f fun d => eBnd g fun d' => zipIt d d'
section
variable {X : Cx} {fa : Gl0} {W : WX} {st : Stmt} {sts : List Stmt} {e tg iter a b : Expr} {es : List Expr} {pos : Pos}

/-! ### values -/
def iAnyV (K : PySem.W.Frag) (te : TE) : TI := fun σ H R => te σ H fun x H1 => (∃ a xs, x = .ref a ∧ SqL K H1 a xs ∧ R (Itl K a) H1) ∨ (∃ a xs, x = .ref a ∧ SqT K H1 a xs ∧ R (Itt K a) H1) ∨ ∃ z, x = .str z ∧ R (Its z) H1
theorem pi_any {te : TE} (he : PE X e te) : PI X tg e (iAnyV X.K te) := by
  refine ⟨fun pins s σ H R I h => ?_⟩
  refine thn (he.run pins s σ H _ I h) fun v s1 ⟨x, H1, I1, r1, q1⟩ => ?_
  rcases q1 with ⟨a, xs, rfl, hq, q⟩ | ⟨a, xs, rfl, hq, q⟩ | ⟨z, rfl, q⟩
  · cases r1
    obtain ⟨its, rv, p, hz⟩ := I1.list hq
    refine wpAny_pyIter_list p.isList ?_
    refine ⟨s1.heap.objs.size, [s1.heap.objs.size], _, _, H1, rfl, I1.kept (t' := s1.toks) fun b o e => Heap.get?_push_of_some _ e, turn_list a _, ⟨_, Heap.get?_push_size _ rfl, rfl, rfl⟩, fun b hb => ?_, q⟩
    have e : b = s1.heap.objs.size := by simpa using hb
    subst e
    exact I1.fpOk (Nat.le_refl _) (I1.hok.fresh (Nat.le_refl _))
  · cases r1
    obtain ⟨its, rv, p, hz⟩ := I1.tuple hq
    refine wpAny_pyIter_tuple (show s1.heap.IsTuple a its.toArray from p) ?_
    refine ⟨s1.heap.objs.size, [s1.heap.objs.size], _, _, H1, rfl, I1.kept (t' := s1.toks) fun b o e => Heap.get?_push_of_some _ e, turn_tuple a _, ⟨_, Heap.get?_push_size _ rfl, rfl, rfl⟩, fun b hb => ?_, q⟩
    have e : b = s1.heap.objs.size := by simpa using hb
    subst e
    exact I1.fpOk (Nat.le_refl _) (I1.hok.fresh (Nat.le_refl _))
  · obtain ⟨t, rfl⟩ := r1
    cases ha : z.cps.all (· < 128)
    · exact wpAny_pyIter_wide ha (pi_one (tk := s1.toks) I1 _ (turn_str _ z t "str_iterator" (.inr rfl)) ⟨_, Heap.get?_push_size _ rfl, rfl, rfl⟩ q)
    · exact wpAny_pyIter_ascii ha (pi_one (tk := s1.toks) I1 _ (turn_str _ z t "str_ascii_iterator" (.inl rfl)) ⟨_, Heap.get?_push_size _ rfl, rfl, rfl⟩ q)
theorem srcLen_ok {p : List Addr} {S : Sto} {H : Hp} {d : D} {v : V} {s : Src} {n : Nat} (rs : RS (rc X fa) p S H) (rv : RV (rc X fa) p H d v) (e : srcLen d S = some (s, n)) : ∃ a vs, v = .ref a ∧ SrcK (rc X fa) p H a s s.kd ∧ SqK X.K H a vs s.kd ∧ vs.length = n := by
  unfold srcLen at e
  split at e
  · rename_i s' es
    obtain ⟨xs, e1, e2⟩ := map_some e
    cases e2
    obtain ⟨a, rfl, hk⟩ := src_of rv es
    obtain ⟨vs, g1, g2⟩ := hk.get rs e1
    exact ⟨a, vs, rfl, hk, g1, g2.length.symm⟩
  · cases e
theorem kd_tup {s : Src} (h : s.tp = true) : s.kd = .tup := if_pos h
theorem kd_lst {s : Src} (h : ¬ s.tp = true) : s.kd = .lst := if_neg h
theorem PI.or {t1 t2 : TI} (h1 : PI X tg e t1) (h2 : PI X tg e t2) : PI X tg e (fun σ H R => t1 σ H R ∨ t2 σ H R) := ⟨fun pins s σ H R I h => h.elim (h1.run pins s σ H R I) (h2.run pins s σ H R I)⟩
/-- a dict is frozen before it is walked -/
def tLock (te : TE) : TE := fun σ H Q => te σ H fun x H1 => ∃ d kvs, x = .ref d ∧ H1 d = some (.dK kvs) ∧ ∀ o, Q x (upd H1 d (.frz o (.dK kvs)))
theorem pe_lock {te : TE} (he : PE X e te) : PE X e (tLock te) := ⟨fun pins s σ H Q I h => by
  refine thn (he.run pins s σ H _ I h) fun v s1 ⟨x, H1, I1, r1, q1⟩ => ?_
  obtain ⟨d, kvs, rfl, hd, q⟩ := q1
  obtain ⟨o, I2⟩ := I1.lock hd True.intro
  exact ⟨_, _, I2, r1, q o⟩⟩
def tLockN (te : TE) : TE := fun σ H Q => te σ H fun x H1 => ∃ d φ, x = .ref d ∧ H1 d = some (.ext φ) ∧ ∀ o, Q x (upd H1 d (.frz o (.ext φ)))
theorem pe_lockN {te : TE} (he : PE X e te) : PE X e (tLockN te) := ⟨fun pins s σ H Q I h => by
  refine thn (he.run pins s σ H _ I h) fun v s1 ⟨x, H1, I1, r1, q1⟩ => ?_
  obtain ⟨d, φ, rfl, hd, q⟩ := q1
  obtain ⟨o, I2⟩ := I1.lock hd True.intro
  exact ⟨_, _, I2, r1, q o⟩⟩
theorem fi_val {f : E D} (he : PE X e (xE (rc X fa) W f)) : PI X tg e (xI (rc X fa) W (iVal f)) :=
  impI (PI.or (pi_any he) (PI.or (pi_keys (pe_lock he)) (PI.or (pi_keys he) (PI.or (pi_keysN (pe_lockN he)) (pi_keysN he))))) fun s H Q ⟨p, n, S, rs, re, h⟩ => by
    have hb : iVal f n S = rbind (f n S) fun d S' => valIt d n S' := rfl
    rw [hb] at h
    cases e1 : f n S with
    | bad => rw [e1] at h; exact h.elim
    | exc c fs S1 => rw [e1] at h; exact .inl ⟨p, n, S, rs, re, by rw [e1]; exact h⟩
    | ok d S1 =>
      rw [e1, rbind_ok] at h
      cases e2 : keyIt d S1 with
      | none =>
        refine .inl ⟨p, n, S, rs, re, ?_⟩
        rw [e1]
        intro p1 H1 hp t rs1 v rv
        have h1 := h.later hp t
        unfold valIt at h1
        split at h1
        · cases rv
          exact .inr (.inr ⟨_, rfl, aft_ok rs1 h1 _ it_str⟩)
        · rw [e2] at h1
          dsimp only at h1
          split at h1
          · rename_i s' n' es
            obtain ⟨a, vs, rfl, hk, g1, g2⟩ := srcLen_ok rs1 rv es
            generalize s'.kd = k at hk g1
            cases k with
            | lst => exact .inl ⟨a, vs, rfl, g1, aft_ok rs1 h1 _ (it_oneL hk)⟩
            | tup => exact .inr (.inl ⟨a, vs, rfl, g1, aft_ok rs1 h1 _ (it_oneT hk)⟩)
          · exact h1.elim
      | some q =>
        obtain ⟨it, S2⟩ := q
        have hv : valIt d n S1 = .ok it S2 := by
          unfold valIt
          split
          · cases e2
          · rw [e2]
        rw [hv] at h
        have h : ∀ p' H', p <+: p' → Tm p H p' H' → RS (rc X fa) p' S2 H' → ∀ J, ItOk (rc X fa) it J p' H' → Q J H' := h
        unfold keyIt at e2
        split at e2
        · rename_i l
          split at e2
          · rename_i kvs es
            cases e2
            refine .inr (.inl ⟨p, n, S, rs, re, ?_⟩)
            rw [e1]
            intro p' H' hp t rs1 v rv
            cases rv with
            | @loc _ a hl =>
              obtain ⟨us, g1, g2⟩ := rs1.at_ l _ a es hl
              refine ⟨a, us, rfl, g1, fun o => ?_⟩
              have T : Tm p' H' p' (upd H' a (.frz o (.dK us))) := Tm.mut (List.mem_of_getElem? hl) (nfz_d g1)
              refine ⟨a, o, rfl, .inl ⟨us, upd_same, h p' _ hp (t.trans T) (rs1.put es hl (nfz_d g1) ⟨o, us, upd_same, paired_imp g2 fun x y z => ⟨z.1, z.2.mono (List.prefix_refl _) T⟩⟩) _ (it_keys hl upd_same)⟩⟩
          · rename_i kvs es
            cases e2
            refine .inr (.inr (.inl ⟨p, n, S, rs, re, ?_⟩))
            rw [e1]
            intro p' H' hp t rs1 v rv
            cases rv with
            | @loc _ a hl =>
              obtain ⟨o, us, g1, g2⟩ := rs1.at_ l _ a es hl
              exact ⟨a, o, rfl, .inl ⟨us, g1, h p' _ hp t rs1 _ (it_keys hl g1)⟩⟩
          · rename_i kvs es
            cases e2
            refine .inr (.inr (.inr (.inl ⟨p, n, S, rs, re, ?_⟩)))
            rw [e1]
            intro p' H' hp t rs1 v rv
            cases rv with
            | @loc _ a hl =>
              obtain ⟨xs, g1, g2, g3, g4⟩ := rs1.at_ l _ a es hl
              refine ⟨a, _, rfl, g1, fun o => ?_⟩
              have T : Tm p' H' p' (upd H' a (.frz o (.ext (RawN (rc X fa).P (rc X fa).w a xs)))) := Tm.mut (List.mem_of_getElem? hl) (nfz_e g1)
              exact ⟨a, o, xs, rfl, g3, upd_same, h p' _ hp (t.trans T) (rs1.put es hl (nfz_e g1) ⟨o, xs, upd_same, g2, g3, paired_imp g4 fun x y z => z.mono (List.prefix_refl _) T⟩) _ (it_keysN hl ⟨_, upd_same⟩)⟩
          · rename_i kvs es
            cases e2
            refine .inr (.inr (.inr (.inr ⟨p, n, S, rs, re, ?_⟩)))
            rw [e1]
            intro p' H' hp t rs1 v rv
            cases rv with
            | @loc _ a hl =>
              obtain ⟨o, xs, g1, g2, g3, g4⟩ := rs1.at_ l _ a es hl
              exact ⟨a, o, xs, rfl, g3, g1, h p' _ hp t rs1 _ (it_keysN hl ⟨_, g1⟩)⟩
          · cases e2
        · cases e2
theorem rn_rel {R : RC} {p : List Addr} {H : Hp} : ∀ {kvs : List (NestedKey × D)} {xs : List (NestedKey × Addr × Value)}, Paired (RN R p H) kvs xs → ∀ y ∈ xs, ∃ v, RelV v y.2.2
  | _, _, .nil, y, hy => nomatch hy
  | _, _, .cons ⟨_, _, v, _, r⟩ t, y, hy => by
    rcases List.mem_cons.mp hy with z | z
    · rw [z]; exact ⟨v, r⟩
    · exact rn_rel t y z
theorem fi_itm {elts : List Expr} {kk : Nat} {tpos apos cpos : Pos} {f : E D} (he : PE X e (xE (rc X fa) W f)) (hbase : attributeBase e "items" X.env (eval e X.env) = eval e X.env) (hline : (apos.endLine == cpos.line) = true) : PI X (.Tuple elts kk tpos) (.Call (.Attribute e "items" apos) [] [] cpos) (xI (rc X fa) W (iItm f)) :=
  impI (PI.or (pi_items (pe_lock he) hbase hline) (PI.or (pi_items he hbase hline) (PI.or (pi_itemsN (pe_lockN he) hbase hline) (pi_itemsN he hbase hline)))) fun s H Q ⟨p, n, S, rs, re, h⟩ => by
    have hb : iItm f n S = rbind (f n S) fun d S' => itmIt d n S' := rfl
    rw [hb] at h
    cases e1 : f n S with
    | bad => rw [e1] at h; exact h.elim
    | exc c fs S1 => rw [e1] at h; exact .inl ⟨p, n, S, rs, re, by rw [e1]; exact h⟩
    | ok d S1 =>
      rw [e1, rbind_ok] at h
      unfold itmIt at h
      split at h
      · rename_i l
        split at h
        · rename_i kvs es
          have h : ∀ p' H', p <+: p' → Tm p H p' H' → RS (rc X fa) p' (S1.set l (.dctZ kvs)) H' → ∀ J, ItOk (rc X fa) (.items l) J p' H' → Q J H' := h
          refine .inl ⟨p, n, S, rs, re, ?_⟩
          rw [e1]
          intro p' H' hp t rs1 v rv
          cases rv with
          | @loc _ a hl =>
            obtain ⟨us, g1, g2⟩ := rs1.at_ l _ a es hl
            refine ⟨a, us, rfl, g1, fun o => ?_⟩
            have T : Tm p' H' p' (upd H' a (.frz o (.dK us))) := Tm.mut (List.mem_of_getElem? hl) (nfz_d g1)
            exact ⟨a, o, us, rfl, upd_same, h p' _ hp (t.trans T) (rs1.put es hl (nfz_d g1) ⟨o, us, upd_same, paired_imp g2 fun x y z => ⟨z.1, z.2.mono (List.prefix_refl _) T⟩⟩) _ (it_items hl upd_same)⟩
        · rename_i kvs es
          have h : ∀ p' H', p <+: p' → Tm p H p' H' → RS (rc X fa) p' S1 H' → ∀ J, ItOk (rc X fa) (.items l) J p' H' → Q J H' := h
          refine .inr (.inl ⟨p, n, S, rs, re, ?_⟩)
          rw [e1]
          intro p' H' hp t rs1 v rv
          cases rv with
          | @loc _ a hl =>
            obtain ⟨o, us, g1, g2⟩ := rs1.at_ l _ a es hl
            exact ⟨a, o, us, rfl, g1, h p' _ hp t rs1 _ (it_items hl g1)⟩
        · rename_i kvs es
          have h : ∀ p' H', p <+: p' → Tm p H p' H' → RS (rc X fa) p' (S1.set l (.dcNZ kvs)) H' → ∀ J, ItOk (rc X fa) (.itemsN l) J p' H' → Q J H' := h
          refine .inr (.inr (.inl ⟨p, n, S, rs, re, ?_⟩))
          rw [e1]
          intro p' H' hp t rs1 v rv
          cases rv with
          | @loc _ a hl =>
            obtain ⟨xs, g1, g2, g3, g4⟩ := rs1.at_ l _ a es hl
            refine ⟨a, _, rfl, g1, fun o => ?_⟩
            have T : Tm p' H' p' (upd H' a (.frz o (.ext (RawN (rc X fa).P (rc X fa).w a xs)))) := Tm.mut (List.mem_of_getElem? hl) (nfz_e g1)
            exact ⟨a, o, xs, rfl, g3, upd_same, rn_rel g4, h p' _ hp (t.trans T) (rs1.put es hl (nfz_e g1) ⟨o, xs, upd_same, g2, g3, paired_imp g4 fun x y z => z.mono (List.prefix_refl _) T⟩) _ (it_itemsN hl ⟨_, upd_same⟩)⟩
        · rename_i kvs es
          have h : ∀ p' H', p <+: p' → Tm p H p' H' → RS (rc X fa) p' S1 H' → ∀ J, ItOk (rc X fa) (.itemsN l) J p' H' → Q J H' := h
          refine .inr (.inr (.inr ⟨p, n, S, rs, re, ?_⟩))
          rw [e1]
          intro p' H' hp t rs1 v rv
          cases rv with
          | @loc _ a hl =>
            obtain ⟨o, xs, g1, g2, g3, g4⟩ := rs1.at_ l _ a es hl
            exact ⟨a, o, xs, rfl, g3, g1, rn_rel g4, h p' _ hp t rs1 _ (it_itemsN hl ⟨_, g1⟩)⟩
        · exact h.elim
      · exact h.elim
theorem fi_rev {f : E D} {q : Pos} (hg : Gl X "reversed") (hm : X.mg "reversed" = none) (he : PE X e (xE (rc X fa) W f)) (hs : starEach [e] X.env = (false, eval e X.env) :: starEach [] X.env) : PI X tg (.Call (.Name "reversed" q) [e] [] pos) (xI (rc X fa) W (iRevd f)) :=
  impI (RT.pi_revA hg hm he hs) fun s H Q ⟨p, n, S, rs, re, h⟩ => xE_of (g := revIt) rs re h fun d p1 S1 H1 v rs1 re1 hp t rv h1 => by
    unfold revIt at h1
    split at h1
    · rename_i s' n' es
      obtain ⟨a, vs, rfl, hk, g1, rfl⟩ := srcLen_ok rs1 rv es
      generalize s'.kd = k at hk g1
      cases k with
      | lst => exact ⟨a, vs, rfl, .inl ⟨g1, aft_ok rs1 h1 _ (it_revL hk)⟩⟩
      | tup => exact ⟨a, vs, rfl, .inr ⟨g1, aft_ok rs1 h1 _ (it_revT hk)⟩⟩
    · exact h1.elim
theorem fi_rng1 {fs : List (E D)} {q : Pos} (hg : Gl X "range") (hm : X.mg "range" = none) (he : PA X [a] (xA (rc X fa) W (eAll fs))) (hs : starEach [a] X.env = [(false, eval a X.env)]) : PI X tg (.Call (.Name "range" q) [a] [] pos) (xI (rc X fa) W (iRng rng1 fs)) :=
  impI (pi_range1 hg hm he hs) fun s H Q ⟨p, n, S, rs, re, h⟩ => xA_of (g := rng1) rs re h fun ds p1 S1 H1 vs rs1 re1 hp t rv h1 => by
    unfold rng1 at h1
    split at h1
    · split at h1
      · rename_i j hj
        have hj := rOk_of hj
        cases rv with
        | cons r r2 =>
          cases r2; cases r
          exact ⟨j, rfl, hj.1, hj.2, aft_ok rs1 h1 _ it_rng⟩
      · exact h1.elim
    · exact h1.elim
theorem fi_rng2 {fs : List (E D)} {q : Pos} (hg : Gl X "range") (hm : X.mg "range" = none) (he : PA X [a, b] (xA (rc X fa) W (eAll fs))) (hs : starEach [a, b] X.env = [(false, eval a X.env), (false, eval b X.env)]) (hs2 : starEach [b] X.env = [(false, eval b X.env)]) : PI X tg (.Call (.Name "range" q) [a, b] [] pos) (xI (rc X fa) W (iRng rng2 fs)) :=
  impI (pi_range2 hg hm he hs hs2) fun s H Q ⟨p, n, S, rs, re, h⟩ => xA_of (g := rng2) rs re h fun ds p1 S1 H1 vs rs1 re1 hp t rv h1 => by
    unfold rng2 at h1
    split at h1
    · split at h1
      · rename_i i j hj
        have hj : -(2 ^ 62) ≤ i ∧ i < 2 ^ 62 ∧ -(2 ^ 62) ≤ j ∧ j < 2 ^ 62 := by
          obtain ⟨h1, h2⟩ := Bool.and_eq_true_iff.mp hj
          exact ⟨(rOk_of h1).1, (rOk_of h1).2, (rOk_of h2).1, (rOk_of h2).2⟩
        cases rv with
        | cons r r2 => cases r2 with
          | cons r2 r3 =>
            cases r3; cases r; cases r2
            exact ⟨i, j, rfl, hj, aft_ok rs1 h1 _ it_rng⟩
      · exact h1.elim
    · exact h1.elim
theorem size_two (i j : Int) : Builtin.Range.rangeSize i j 2 = (((j - i + 1) / 2).toNat : Nat) := by
  unfold Builtin.Range.rangeSize
  rw [if_pos (by decide)]
  split <;> omega
theorem rgc_two {i j : Int} (ha : -(2 ^ 62) ≤ i) (ha' : i < 2 ^ 62) (hb : -(2 ^ 62) ≤ j) (hb' : j < 2 ^ 62) : RgC i j 2 ((j - i + 1) / 2).toNat := by
  refine ⟨by decide, by decide, ?_, size_two i j⟩
  unfold Builtin.Range.small
  rw [size_two]
  simp only [Builtin.Range.rangeFitsLong, Bool.and_eq_true, Bool.or_eq_true, decide_eq_true_eq, beq_iff_eq, show (2 : Int) > 0 by decide, if_true]
  omega
theorem fi_rng3 {c : Expr} {fs : List (E D)} {q : Pos} (hg : Gl X "range") (hm : X.mg "range" = none) (he : PA X [a, b, c] (xA (rc X fa) W (eAll fs)))
    (h1 : starEach [a, b, c] X.env = (false, eval a X.env) :: starEach [b, c] X.env) (h2 : (backTo pos (starEach [b, c] X.env)).any (·.1) = false) : PI X tg (.Call (.Name "range" q) [a, b, c] [] pos) (xI (rc X fa) W (iRng rng3 fs)) :=
  impI (pi_range3 hg hm he h1 h2) fun s H Q ⟨p, n, S, rs, re, h⟩ => xA_of (g := rng3) rs re h fun ds p1 S1 H1 vs rs1 re1 hp t rv h1 => by
    unfold rng3 at h1
    split at h1
    · split at h1
      · rename_i i j c hj
        have hj : c = -1 ∧ -(2 ^ 62) ≤ i ∧ i < 2 ^ 62 ∧ -(2 ^ 62) ≤ j ∧ j < 2 ^ 62 := by
          obtain ⟨h0, h⟩ := Bool.and_eq_true_iff.mp hj
          obtain ⟨h1, h2⟩ := Bool.and_eq_true_iff.mp h
          exact ⟨by simpa using h0, (rOk_of h1).1, (rOk_of h1).2, (rOk_of h2).1, (rOk_of h2).2⟩
        cases rv with
        | cons r r2 => cases r2 with
          | cons r2 r3 => cases r3 with
            | cons r3 r4 =>
              cases r4; cases r; cases r2; cases r3
              obtain ⟨rfl, g1, g2, g3, g4⟩ := hj
              exact ⟨i, j, -1, _, rfl, .neg g1 g2 g3 g4, aft_ok rs1 h1 _ it_rngC⟩
      · split at h1
        · rename_i i j c _ hj
          have hj : c = 2 ∧ -(2 ^ 62) ≤ i ∧ i < 2 ^ 62 ∧ -(2 ^ 62) ≤ j ∧ j < 2 ^ 62 := by
            obtain ⟨h0, h⟩ := Bool.and_eq_true_iff.mp hj
            obtain ⟨h1, h2⟩ := Bool.and_eq_true_iff.mp h
            exact ⟨by simpa using h0, (rOk_of h1).1, (rOk_of h1).2, (rOk_of h2).1, (rOk_of h2).2⟩
          cases rv with
          | cons r r2 => cases r2 with
            | cons r2 r3 => cases r3 with
              | cons r3 r4 =>
                cases r4; cases r; cases r2; cases r3
                obtain ⟨rfl, g1, g2, g3, g4⟩ := hj
                exact ⟨i, j, 2, _, rfl, rgc_two g1 g2 g3 g4, aft_ok rs1 h1 _ it_rngC⟩
        · exact h1.elim
    · exact h1.elim
theorem fi_enum {f : E D} {q : Pos} {elts : List Expr} {kk : Nat} {tpos : Pos} (hg : Gl X "enumerate") (hm : X.mg "enumerate" = none) (he : PE X e (xE (rc X fa) W f)) (hs : starEach [e] X.env = [(false, eval e X.env)]) :
    PI X (.Tuple elts kk tpos) (.Call (.Name "enumerate" q) [e] [] pos) (xI (rc X fa) W (iEnum f)) :=
  impI (pi_enumA hg hm (pa_cons he pa_nil hs) hs) fun s H Q ⟨p, n, S, rs, re, h⟩ => xE_of (g := enuIt) rs re h fun d p1 S1 H1 v rs1 re1 hp t rv h1 => by
    unfold enuIt at h1
    split at h1
    · rename_i s' n' es
      obtain ⟨a, vs, rfl, hk, g1, rfl⟩ := srcLen_ok rs1 rv es
      generalize s'.kd = k at hk g1
      cases k with
      | lst => exact ⟨a, vs, rfl, .inl ⟨g1, aft_ok rs1 h1 _ (it_enum hk)⟩⟩
      | tup => exact ⟨a, vs, rfl, .inr ⟨g1, aft_ok rs1 h1 _ (it_enumT hk)⟩⟩
    · exact h1.elim
theorem fi_zip {f g : E D} {q : Pos} {elts : List Expr} {kk : Nat} {tpos : Pos} (hg : Gl X "zip") (hm : X.mg "zip" = none) (ha : PE X a (xE (rc X fa) W f)) (hb : PE X b (xE (rc X fa) W g))
    (h1 : starEach [a, b] X.env = (false, eval a X.env) :: starEach [b] X.env) (h2 : starEach [b] X.env = (false, eval b X.env) :: starEach [] X.env) (hpl : (backTo pos (starEach [b] X.env)).any (·.1) = false) :
    PI X (.Tuple elts kk tpos) (.Call (.Name "zip" q) [a, b] [] pos) (xI (rc X fa) W (iZip f g)) :=
  impI (RZ.pi_zipA hg hm (pa_cons ha (pa_cons hb pa_nil h2) h1) h1 hpl) fun s H Q ⟨p, n, S, rs, re, h⟩ => xE_of rs re h fun d p1 S1 H1 v rs1 re1 hp t rv h1 => xE_of (g := zipIt d) rs1 re1 h1 fun d2 p2 S2 H2 v2 rs2 re2 hp2 t2 rv2 h2 => by
    unfold zipIt at h2
    split at h2
    · rename_i s' n' t' m' es et
      obtain ⟨a, vs, rfl, hk, g1, _⟩ := srcLen_ok rs2 (rv.mono hp2 t2) es
      obtain ⟨b, us, rfl, hk', g1', _⟩ := srcLen_ok rs2 rv2 et
      split at h2
      · rename_i htp
        by_cases hs : s'.tp = true
        · rw [kd_tup hs] at hk g1
          rw [kd_tup (htp ▸ hs)] at hk' g1'
          exact ⟨a, b, vs, us, rfl, .inr ⟨g1, g1', aft_ok rs2 h2 _ (it_zipT hk hk')⟩⟩
        · rw [kd_lst hs] at hk g1
          rw [kd_lst (htp ▸ hs)] at hk' g1'
          exact ⟨a, b, vs, us, rfl, .inl ⟨g1, g1', aft_ok rs2 h2 _ (it_zipL hk hk')⟩⟩
      · exact h2.elim
    · exact h2.elim
end
end Jm

set_option Elab.async false
set_option linter.all false
set_option maxRecDepth 100000
set_option maxHeartbeats 4000000
/-! Jm, part L: for, while, list comprehensions. -/
noncomputable section
namespace Jm
open PySem PySem.Spec PyProof.Rows L2
section
variable {X : Cx} {fa : Gl0} {W : WX} {st : Stmt} {sts : List Stmt} {e tg iter a b : Expr} {es : List Expr} {pos : Pos}
theorem f_for {f : E Itn} {g : G} {vs : List Nat} {body : List Stmt} {fb : E Out} (hp : PassesOwn (model X.prog X.w) X.A X.env X.xe) (hc : X.calm = true) (hi : PI X tg iter (xI (rc X fa) W f)) (hg : PG X tg (xG (rc X fa) W vs g)) (hb : PSs X body (xS (rc X fa) W fb))
    (hs : ∀ x, foldedSetIterable iter X.env x = pure x) : PS X (.For tg iter body [] pos) (xS (rc X fa) W (sFor f g fb)) :=
  impS (ps_for hp hc hi hg hb hs) fun D0 s H ⟨p, n, S, rs, re, h⟩ => ⟨p, n, S, rs, re, sE_of rs re h fun it p1 S1 H1 rs1 re1 hp1 t1 h1 J hJ => by
    refine ⟨fun i m s' H' => ∃ p' n' S', p1 <+: p' ∧ Tm p1 H1 p' H' ∧ RS (rc X fa) p' S' H' ∧ RE (rc X fa) p' n' s' H' ∧ Aft (rc X fa) p' H' (loopF it g fb m i n' S') (fun o p2 S2 H2 => o.post (rc X fa) W D0 p2 H2) NoW,
      ⟨FUEL, p1, n, S1, List.prefix_refl _, Tm.refl, rs1, re1, h1⟩, ?_⟩
    rintro i m s2 H2 ⟨p2, n2, S2, hp2, t2, rs2, re2, h2⟩
    cases m with
    | zero => exact h2.elim
    | succ m =>
      have h2 : Aft (rc X fa) p2 H2 (match it.next i S2 with
        | none => .bad
        | some none => .ok (.nx n2) S2
        | some (some d) => match g d n2 S2 with
          | .ok n1 S1 => rbind (fb n1 S1) fun o S2 => match o with
            | .nx n2 => loopF it g fb m (i + 1) n2 S2
            | .ct n2 => loopF it g fb m (i + 1) n2 S2
            | .bk n2 => .ok (.nx n2) S2
            | o => .ok o S2
          | .exc c fs S1 => .ok (.er c fs n2) S1
          | .bad => .bad) (fun o p2 S2 H2 => o.post (rc X fa) W D0 p2 H2) NoW := h2
      cases e : it.next i S2 with
      | none => rw [e] at h2; exact h2.elim
      | some o =>
        rw [e] at h2
        cases o with
        | none => exact .inl ⟨hJ.stop p2 H2 S2 hp2 t2 rs2 i e, aft_ok rs2 h2 s2 re2⟩
        | some d =>
          obtain ⟨hgo, hy⟩ := hJ.item p2 H2 S2 hp2 t2 rs2 i d e
          refine .inr ⟨hgo, fun s' H' => ∃ p' n' S', p1 <+: p' ∧ Tm p1 H1 p' H' ∧ RS (rc X fa) p' S' H' ∧ RE (rc X fa) p' n' s' H' ∧ Aft (rc X fa) p' H' (loopF it g fb m (i + 1) n' S') (fun o p2 S2 H2 => o.post (rc X fa) W D0 p2 H2) NoW,
            fun s' H' q => ⟨m, Nat.lt_succ_self _, q⟩, fun x H3 y => ?_⟩
          obtain ⟨t3, rs3, rv3⟩ := hy x H3 y
          have h3 := Aft.later h2 (List.prefix_refl _) t3
          refine ⟨p2, n2, S2, d, rs3, re2.mono (List.prefix_refl _) t3, rv3, ?_⟩
          dsimp only at h3
          cases eg : g d n2 S2 with
          | bad => rw [eg] at h3; exact h3.elim
          | exc c fs S4 =>
            rw [eg] at h3
            exact fun p4 H4 cls dd hp4 t4 rs4 x4 => h3 p4 H4 hp4 t4 rs4 s2 cls dd ((re2.mono (List.prefix_refl _) t3).mono hp4 t4) x4
          | ok n4 S4 =>
            rw [eg] at h3
            dsimp only at h3
            intro p4 H4 hp4 t4 rs4 s4 re4 _
            have hp14 := (hp2.trans hp4)
            have t14 := (t2.trans t3).trans t4
            refine ⟨p4, n4, S4, rs4, re4, (Aft.bind (Aft.later h3 hp4 t4)).imp (fun o p5 S5 H5 hp5 t5 rs5 h5 => ?_) fun _ _ _ w => w⟩
            cases o with
            | nx n5 => exact fun s5 re5 => ⟨p5, n5, S5, hp14.trans hp5, t14.trans t5, rs5, re5, h5⟩
            | ct n5 => exact fun s5 re5 => ⟨p5, n5, S5, hp14.trans hp5, t14.trans t5, rs5, re5, h5⟩
            | bk n5 => exact fun s5 re5 => aft_ok rs5 h5 s5 re5
            | rt d5 => exact aft_ok rs5 h5
            | er c fs n5 => exact aft_ok rs5 h5⟩
theorem f_while {c : Expr} {t : E Bool} {body : List Stmt} {fb : E Out} (hp : PassesOwn (model X.prog X.w) X.A X.env X.xe) (hc : PT X c (xT (rc X fa) W t)) (hb : PSs X body (xS (rc X fa) W fb)) : PS X (.While c body [] pos) (xS (rc X fa) W (sWhile t fb)) :=
  impS (ps_while hp hc hb) fun D0 s H ⟨p, n, S, rs, re, h⟩ => by
    refine ⟨fun m s' H' => ∃ p' n' S', RS (rc X fa) p' S' H' ∧ RE (rc X fa) p' n' s' H' ∧ Aft (rc X fa) p' H' (whileF t fb m n' S') (fun o p2 S2 H2 => o.post (rc X fa) W D0 p2 H2) NoW, ⟨FUEL, p, n, S, rs, re, h⟩, ?_⟩
    rintro m s2 H2 ⟨p2, n2, S2, rs2, re2, h2⟩
    cases m with
    | zero => exact h2.elim
    | succ m =>
      have h2 : Aft (rc X fa) p2 H2 (sBnd t (fun b => if b = true then fun n S => rbind (fb n S) fun o S2 => match o with
        | .nx n2 => whileF t fb m n2 S2
        | .ct n2 => whileF t fb m n2 S2
        | .bk n2 => .ok (.nx n2) S2
        | o => .ok o S2
        else fun n S => .ok (.nx n) S) n2 S2) (fun o p2 S2 H2 => o.post (rc X fa) W D0 p2 H2) NoW := h2
      refine ⟨p2, n2, S2, rs2, re2, sE_of rs2 re2 h2 fun b p3 S3 H3 rs3 re3 hp3 t3 h3 => ?_⟩
      cases b with
      | false => exact aft_ok rs3 h3 s2 re3
      | true =>
        rw [if_pos rfl] at h3 ⊢
        refine ⟨fun s' H' => ∃ p' n' S', RS (rc X fa) p' S' H' ∧ RE (rc X fa) p' n' s' H' ∧ Aft (rc X fa) p' H' (whileF t fb m n' S') (fun o p2 S2 H2 => o.post (rc X fa) W D0 p2 H2) NoW, fun s' H' q => ⟨m, Nat.lt_succ_self _, q⟩, ?_⟩
        refine ⟨p3, n2, S3, rs3, re3, (Aft.bind h3).imp (fun o p5 S5 H5 hp5 t5 rs5 h5 => ?_) fun _ _ _ w => w⟩
        cases o with
        | nx n5 => exact fun s5 re5 => ⟨p5, n5, S5, rs5, re5, h5⟩
        | ct n5 => exact fun s5 re5 => ⟨p5, n5, S5, rs5, re5, h5⟩
        | bk n5 => exact fun s5 re5 => aft_ok rs5 h5 s5 re5
        | rt d5 => exact aft_ok rs5 h5
        | er c fs n5 => exact aft_ok rs5 h5
theorem RE.wipes {R : RC} {p : List Addr} {n : En} {s : L2.St} {H : Hp} (r : RE R p n s H) : ∀ vs : List Nat, RE R p (wipeD n vs) (L2.wipe s vs) H
  | [] => r
  | v :: vs => (r.wipes vs).wipe
abbrev W0 : WX := fun _ _ _ _ => False
theorem wipe_in {i : Nat} : ∀ {vs : List Nat} {s : L2.St}, i ∈ vs → i < s.length → (L2.wipe s vs)[i]? = some none
  | [], _, h, _ => nomatch h
  | v :: vs, s, h, hl => by
    show ((L2.wipe s vs).set v none)[i]? = some none
    by_cases e : v = i
    · subst e
      exact List.getElem?_set_self (by rw [wipe_length]; exact hl)
    · rw [List.getElem?_set_ne e]
      rcases List.mem_cons.mp h with h | h
      · exact absurd h.symm e
      · exact wipe_in h hl
theorem wipe_wipe (s : L2.St) (vs : List Nat) : L2.wipe (L2.wipe s vs) vs = L2.wipe s vs := by
  apply List.ext_getElem?
  intro i
  by_cases h : i ∈ vs
  · by_cases hl : i < s.length
    · rw [wipe_in h hl, wipe_in h (by rw [wipe_length]; exact hl)]
    · rw [List.getElem?_eq_none (by rw [wipe_length, wipe_length]; omega), List.getElem?_eq_none (by rw [wipe_length]; omega)]
  · rw [wipe_out h]
theorem rbind_is {A B : Type} {r : Res A} {f : A → Sto → Res B} {b : B} {S : Sto} (h : rbind r f = .ok b S) : ∃ a S', r = .ok a S' ∧ f a S' = .ok b S := by
  cases r with
  | ok a S' => exact ⟨a, S', rfl, h⟩
  | exc c fs S' => cases h
  | bad => cases h
/- a tracked list that is neither the script nor of the store may change, and may become one of the store -/
theorem exo_lst {e C : Addr} {d : Option Addr} {xs : List V} : exo e C d ≠ .lst xs := fun z => by
  have z' : HO.ext _ = HO.lst xs := z
  cases z'
theorem exd_lst {e : Addr} {gs : List (Str × V)} {xs : List V} : exd e gs ≠ .lst xs := fun z => by
  have z' : HO.ext _ = HO.lst xs := z
  cases z'
mutual
theorem RV.upL {R : RC} {p : List Addr} {H : Hp} {q : Addr} {us : List V} {o : HO} (hq : H q = some (.lst us)) (ng : R.g ≠ some q) : ∀ {d : D} {v : V}, RV R p H d v → RV R p (upd H q o) d v
  | _, _, .non => .non
  | _, _, .bl b => .bl b
  | _, _, .int i => .int i
  | _, _, .str x => .str x
  | _, _, .ty n => .ty n
  | _, _, .tup s r => by
    refine .tup ?_ (RVs.upL hq ng r)
    rcases s with ⟨n, h | ⟨ob, h⟩⟩ | h
    · exact .inl ⟨n, .inl (by rw [upd_ne (ne_of h hq (fun z => nomatch z))]; exact h)⟩
    · exact .inl ⟨n, .inr ⟨ob, by rw [upd_ne (ne_of h hq (fun z => nomatch z))]; exact h⟩⟩
    · exact .inr h
  | _, _, .loc e => .loc e
  | _, _, .fn i => .fn i
  | _, _, .rng n e => .rng n (by rw [upd_ne (ne_of e hq (fun z => nomatch z))]; exact e)
  | _, _, .scr s r => by
    refine .scr ?_ (RVs.upL hq ng r)
    rcases s with ⟨g, n, h | ⟨ob, h⟩⟩ | h
    · exact .inl ⟨g, n, .inl (by rw [upd_ne (fun z => ng (by rw [← z]; exact g))]; exact h)⟩
    · exact .inl ⟨g, n, .inr ⟨ob, by rw [upd_ne (fun z => ng (by rw [← z]; exact g))]; exact h⟩⟩
    · exact .inr h
  | _, _, .sett n h r h1 h2 h3 => .sett n (by rw [upd_ne (ne_of h hq (fun z => nomatch z))]; exact h) (RVs.upL hq ng r) h1 h2 h3
  | _, _, .ins n h r => .ins n (by rw [upd_ne (ne_of h hq (fun z => nomatch z))]; exact h) (RV.upL hq ng r)
  | _, _, .exv n m h k r => .exv n m (by rw [upd_ne (ne_of h hq exo_lst)]; exact h) (by rw [upd_ne (ne_of k hq exd_lst)]; exact k) (RV.upL hq ng r)
  | _, _, .exv0 n h => .exv0 n (by rw [upd_ne (ne_of h hq exo_lst)]; exact h)
  | _, _, .exc e n h r => .exc e n (by rw [upd_ne (ne_of h hq (fun z => nomatch z))]; exact h) (RV.upL hq ng r)
  | _, _, .exc0 e => .exc0 e
theorem RVs.upL {R : RC} {p : List Addr} {H : Hp} {q : Addr} {us : List V} {o : HO} (hq : H q = some (.lst us)) (ng : R.g ≠ some q) : ∀ {ds : List D} {vs : List V}, RVs R p H ds vs → RVs R p (upd H q o) ds vs
  | _, _, .nil => .nil
  | _, _, .cons r rs => .cons (RV.upL hq ng r) (RVs.upL hq ng rs)
end
theorem RS.upL {R : RC} {p : List Addr} {S : Sto} {H : Hp} {q : Addr} {us : List V} {o : HO} (rs : RS R p S H) (hq : H q = some (.lst us)) (ng : R.g ≠ some q) (nq : q ∉ p) : RS R p S (upd H q o) :=
  ⟨rs.len, rs.nd, fun a e => by
    obtain ⟨n, u, h⟩ := rs.gt a e
    exact ⟨n, u, by rw [upd_ne (fun z => ng (by rw [← z]; exact e))]; exact h⟩, fun l ob a e1 e2 => by
    have ne : a ≠ q := fun z => nq (by rw [← z]; exact List.mem_of_getElem? e2)
    have ro := rs.at_ l ob a e1 e2
    cases ob with
    | lst ds => obtain ⟨vs, h1, h2⟩ := ro; exact ⟨vs, by rw [upd_ne ne]; exact h1, h2.upL hq ng⟩
    | dct kvs => obtain ⟨vs, h1, h2⟩ := ro; exact ⟨vs, by rw [upd_ne ne]; exact h1, paired_imp h2 fun x y z => ⟨z.1, z.2.upL hq ng⟩⟩
    | dctZ kvs => obtain ⟨o, vs, h1, h2⟩ := ro; exact ⟨o, vs, by rw [upd_ne ne]; exact h1, paired_imp h2 fun x y z => ⟨z.1, z.2.upL hq ng⟩⟩
    | dcN kvs => obtain ⟨xs, h1, h2, h3, h4⟩ := ro; exact ⟨xs, by rw [upd_ne ne]; exact h1, h2, h3, paired_imp h4 fun x y ⟨z1, ⟨ds, k1, k2⟩, v, z3, z4⟩ => ⟨z1, ⟨ds, k1.upL hq ng, k2⟩, v, z3.upL hq ng, z4⟩⟩
    | dcNZ kvs => obtain ⟨o', xs, h1, h2, h3, h4⟩ := ro; exact ⟨o', xs, by rw [upd_ne ne]; exact h1, h2, h3, paired_imp h4 fun x y ⟨z1, ⟨ds, k1, k2⟩, v, z3, z4⟩ => ⟨z1, ⟨ds, k1.upL hq ng, k2⟩, v, z3.upL hq ng, z4⟩⟩⟩
mutual
theorem RV.adL {R : RC} {p : List Addr} {H : Hp} {q : Addr} {us : List V} (hq : H q = some (.lst us)) (ng : R.g ≠ some q) : ∀ {d : D} {v : V}, RV R p H d v → RV R (p ++ [q]) H d v
  | _, _, .non => .non
  | _, _, .bl b => .bl b
  | _, _, .int i => .int i
  | _, _, .str x => .str x
  | _, _, .ty n => .ty n
  | _, _, .tup s r => by
    refine .tup ?_ (RVs.adL hq ng r)
    have out : ∀ {a : Addr} {o : HO}, a ∉ p → H a = some o → o ≠ .lst us → a ∉ p ++ [q] := fun {a o} n h d z => by
      rcases List.mem_append.mp z with z | z
      · exact n z
      · exact ne_of h hq d (by simpa using z)
    rcases s with ⟨n, h | ⟨ob, h⟩⟩ | h
    · exact .inl ⟨out n h (fun z => nomatch z), .inl h⟩
    · exact .inl ⟨out n h (fun z => nomatch z), .inr ⟨ob, h⟩⟩
    · exact .inr h
  | _, _, .loc e => .loc (pre_get (pre_snoc _ _) e)
  | _, _, .fn i => .fn i
  | _, _, .rng n e => by
    refine .rng (fun z => ?_) e
    rcases List.mem_append.mp z with z | z
    · exact n z
    · exact ne_of e hq (fun z => nomatch z) (by simpa using z)
  | _, _, .scr s r => by
    refine .scr ?_ (RVs.adL hq ng r)
    rcases s with ⟨g, n, h⟩ | h
    · refine .inl ⟨g, fun z => ?_, h⟩
      rcases List.mem_append.mp z with z | z
      · exact n z
      · exact ng (by rw [← (show _ = q by simpa using z)]; exact g)
    · exact .inr h
  | _, _, .sett n h r h1 h2 h3 => by
    refine .sett (fun z => ?_) h (RVs.adL hq ng r) h1 h2 h3
    rcases List.mem_append.mp z with z | z
    · exact n z
    · exact ne_of h hq (fun z => nomatch z) (by simpa using z)
  | _, _, .ins n h r => by
    refine .ins (fun z => ?_) h (RV.adL hq ng r)
    rcases List.mem_append.mp z with z | z
    · exact n z
    · exact ne_of h hq (fun z => nomatch z) (by simpa using z)
  | _, _, .exv n m h k r => by
    refine .exv (fun z => ?_) (fun z => ?_) h k (RV.adL hq ng r)
    · rcases List.mem_append.mp z with z | z
      · exact n z
      · exact ne_of h hq exo_lst (by simpa using z)
    · rcases List.mem_append.mp z with z | z
      · exact m z
      · exact ne_of k hq exd_lst (by simpa using z)
  | _, _, .exv0 n h => by
    refine .exv0 (fun z => ?_) h
    rcases List.mem_append.mp z with z | z
    · exact n z
    · exact ne_of h hq exo_lst (by simpa using z)
  | _, _, .exc e n h r => by
    refine .exc e (fun z => ?_) h (RV.adL hq ng r)
    rcases List.mem_append.mp z with z | z
    · exact n z
    · exact ne_of h hq (fun z => nomatch z) (by simpa using z)
  | _, _, .exc0 e => .exc0 e
theorem RVs.adL {R : RC} {p : List Addr} {H : Hp} {q : Addr} {us : List V} (hq : H q = some (.lst us)) (ng : R.g ≠ some q) : ∀ {ds : List D} {vs : List V}, RVs R p H ds vs → RVs R (p ++ [q]) H ds vs
  | _, _, .nil => .nil
  | _, _, .cons r rs => .cons (RV.adL hq ng r) (RVs.adL hq ng rs)
end
/-- the reading of a comprehension's loop -/
theorem lc_in {f : E Itn} {g : G} {vs : List Nat} {t : E Bool} {elt : E D} {s : L2.St} {H : Hp} {Q : VK} (h : xE (rc X fa) W (eLc f vs g t elt) s H Q) :
    tLc (xI (rc X fa) W f) (xG (rc X fa) W0 vs g) (xT (rc X fa) W0 t) (xE (rc X fa) W0 elt) vs s H Q := by
  obtain ⟨p, n, S, rs, re, h⟩ := h
  refine ⟨p, n, S, rs, re, (Aft.bind h).imp (fun it p1 S1 H1 hp1 t1 rs1 h1 J hJ Dd hD => ?_) fun _ _ _ w => w⟩
  have re1 := (re.mono hp1 t1).wipes vs
  have nD : Dd ∉ p1 := rs1.nin hD
  have ngD : (rc X fa).g ≠ some Dd := rs1.ng hD
  have TD := Tm.new (p := p1) (o := .lst []) hD
  -- it comes to an end
  obtain ⟨ys, Sf, hr, hfin⟩ : ∃ ys Sf, lcF it g t elt (wipeD n vs) FUEL 0 [] S1 = .ok ys Sf ∧ ∀ p' H', p1 <+: p' → Tm p1 H1 p' H' → RS (rc X fa) p' (Sf ++ [.lst ys]) H' → ∀ v, RV (rc X fa) p' H' (.loc Sf.length) v → Q v H' := by
    have h1 : Aft (rc X fa) p1 H1 (rbind (nox (lcF it g t elt (wipeD n vs) FUEL 0 [] S1)) fun ys S' => .ok (.loc S'.length) (S' ++ [.lst ys])) (fun d p' S' H' => ∀ v, RV (rc X fa) p' H' d v → Q v H') (fun c dd H' => W c dd s H') := h1
    cases e : lcF it g t elt (wipeD n vs) FUEL 0 [] S1 with
    | ok ys Sf => rw [e] at h1; exact ⟨ys, Sf, rfl, h1⟩
    | exc c fs Sf => rw [e] at h1; exact h1.elim
    | bad => rw [e] at h1; exact h1.elim
  refine ⟨fun i m H' => ∃ p' S' acc us, p1 <+: p' ∧ Tm p1 H1 p' H' ∧ Dd ∉ p' ∧ H' Dd = some (.lst us) ∧ RVs (rc X fa) p' H' acc us ∧ RS (rc X fa) p' S' H' ∧ lcF it g t elt (wipeD n vs) m i acc S' = .ok ys Sf,
    ⟨FUEL, p1, S1, [], [], List.prefix_refl _, TD, nD, upd_same, .nil, rs1.newT hD, hr⟩, ?_⟩
  rintro i m H2 ⟨p2, S2, acc, us, hp2, t2, nD2, hD2, ra2, rs2, h2⟩
  cases m with
  | zero => cases h2
  | succ m =>
    have h2 : (match it.next i S2 with
      | none => .bad
      | some none => .ok acc S2
      | some (some d) => rbind (g d (wipeD n vs) S2) fun n1 S1 => rbind (t n1 S1) fun b S2 => if b = true then rbind (elt n1 S2) fun y S3 => if acc.length < LINE then lcF it g t elt (wipeD n vs) m (i + 1) (acc ++ [y]) S3 else .bad else lcF it g t elt (wipeD n vs) m (i + 1) acc S2) = Res.ok ys Sf := h2
    cases e : it.next i S2 with
    | none => rw [e] at h2; cases h2
    | some o =>
      rw [e] at h2
      cases o with
      | none =>
        refine .inl ⟨hJ.stop p2 H2 S2 hp2 t2 rs2 i e, ?_⟩
        cases h2
        refine hfin (p2 ++ [Dd]) H2 (hp2.trans (pre_snoc _ _)) ⟨fun a u na ea => ?_, t2.fz⟩ (rs2.adopt nD2 ⟨us, hD2, ra2.adL hD2 ngD⟩ ngD fun l o' a e1 e2 => ?_) _ (.loc ?_)
        · obtain ⟨n2, e2⟩ := t2 a u na ea
          refine ⟨fun z => ?_, e2⟩
          rcases List.mem_append.mp z with z | z
          · exact n2 z
          · have : a = Dd := by simpa using z
            subst this
            rw [hD] at ea; cases ea
        · have ro := rs2.at_ l o' a e1 e2
          cases o' with
          | lst ds => obtain ⟨vs, h1, h2⟩ := ro; exact ⟨vs, h1, h2.adL hD2 ngD⟩
          | dct kvs => obtain ⟨vs, h1, h2⟩ := ro; exact ⟨vs, h1, paired_imp h2 fun x y z => ⟨z.1, z.2.adL hD2 ngD⟩⟩
          | dctZ kvs => obtain ⟨o, vs, h1, h2⟩ := ro; exact ⟨o, vs, h1, paired_imp h2 fun x y z => ⟨z.1, z.2.adL hD2 ngD⟩⟩
          | dcN kvs => obtain ⟨xs, h1, h2, h3, h4⟩ := ro; exact ⟨xs, h1, h2, h3, paired_imp h4 fun x y ⟨z1, ⟨ds, k1, k2⟩, v, z3, z4⟩ => ⟨z1, ⟨ds, k1.adL hD2 ngD, k2⟩, v, z3.adL hD2 ngD, z4⟩⟩
          | dcNZ kvs => obtain ⟨o', xs, h1, h2, h3, h4⟩ := ro; exact ⟨o', xs, h1, h2, h3, paired_imp h4 fun x y ⟨z1, ⟨ds, k1, k2⟩, v, z3, z4⟩ => ⟨z1, ⟨ds, k1.adL hD2 ngD, k2⟩, v, z3.adL hD2 ngD, z4⟩⟩
        · rw [← rs2.len]; simp
      | some d =>
        obtain ⟨hgo, hy⟩ := hJ.item p2 H2 S2 hp2 t2 rs2 i d e
        refine .inr ⟨hgo, fun H' => ∃ p' S' acc us, p1 <+: p' ∧ Tm p1 H1 p' H' ∧ Dd ∉ p' ∧ H' Dd = some (.lst us) ∧ RVs (rc X fa) p' H' acc us ∧ RS (rc X fa) p' S' H' ∧ lcF it g t elt (wipeD n vs) m (i + 1) acc S' = .ok ys Sf,
          fun H' q => ⟨m, Nat.lt_succ_self _, q⟩, fun x H3 y => ?_⟩
        obtain ⟨t3, rs3, rv3⟩ := hy x H3 y
        obtain ⟨n1, S4, eg, h3⟩ := rbind_is h2
        obtain ⟨b, S5, et, h4⟩ := rbind_is h3
        have pre := List.prefix_refl p2
        refine ⟨p2, wipeD n vs, S2, d, rs3, (re1.mono hp2 (t2.trans t3)), rv3, ?_⟩
        rw [eg]
        intro p4 H4 hp4 t4 rs4 s4 re4 hw4
        refine ⟨by rw [hw4, wipe_wipe], p4, n1, S4, rs4, re4, ?_⟩
        rw [et]
        intro p5 H5 hp5 t5 rs5
        have T25 := (t3.trans t4).trans t5
        have P25 := hp4.trans hp5
        cases b with
        | false =>
          have h4 : lcF it g t elt (wipeD n vs) m (i + 1) acc S5 = .ok ys Sf := h4
          show ∃ p' S' acc us, _
          obtain ⟨nD5, hD5⟩ := T25 Dd _ nD2 hD2
          exact ⟨p5, S5, acc, us, hp2.trans P25, t2.trans T25, nD5, hD5, ra2.mono P25 T25, rs5, h4⟩
        | true =>
          have h4 : rbind (elt n1 S5) (fun y S3 => if acc.length < LINE then lcF it g t elt (wipeD n vs) m (i + 1) (acc ++ [y]) S3 else .bad) = .ok ys Sf := h4
          obtain ⟨y', S6, ee, h5⟩ := rbind_is h4
          show xE (rc X fa) W0 elt s4 H5 _
          refine ⟨p5, n1, S5, rs5, re4.mono hp5 t5, ?_⟩
          rw [ee]
          intro p6 H6 hp6 t6 rs6 v rv6
          have T26 := T25.trans t6
          have P26 := P25.trans hp6
          obtain ⟨nD6, hD6⟩ := T26 Dd _ nD2 hD2
          have hlen : acc.length < LINE := by
            by_cases c : acc.length < LINE
            · exact c
            · rw [if_neg c] at h5
              cases h5
          rw [if_pos hlen] at h5
          have ra6 := ra2.mono P26 T26
          refine ⟨us, hD6, by rw [← ra2.length, line_eq]; exact hlen, p6, S6, acc ++ [y'], us ++ [v], hp2.trans P26, ⟨fun a u na ea => ?_, fun a o u ea => by
            rw [upd_ne (fun z => by rw [z, hD] at ea; cases ea)]
            exact (t2.trans T26).fz a o u ea⟩, nD6, upd_same, (ra6.append (.cons rv6 .nil)).upL hD6 ngD, rs6.upL hD6 ngD nD6, h5⟩
          obtain ⟨n6, e6⟩ := (t2.trans T26) a u na ea
          refine ⟨n6, ?_⟩
          rw [upd_ne (fun z => ?_)]
          · exact e6
          · rw [z, hD] at ea; cases ea
end
end Jm

set_option Elab.async false
set_option linter.all false
set_option maxRecDepth 100000
set_option maxHeartbeats 4000000
/-! Jm, part M: methods of built-in types, calls of the module's defs, raise. -/
noncomputable section
namespace Jm
open PySem PySem.Spec PyProof.Rows L2

/-! ### methods -/
abbrev MPrim := D → List D → Sto → Option (D × Sto)
def chkT (t : Tn) (d : D) : E Unit := fun _ S => if tyOf d S = some t then .ok () S else .bad
def eMeth (t : Tn) (g : MPrim) (f : E D) (fs : List (E D)) : E D := eBnd f fun d => eBnd (chkT t d) fun _ => eBnd (eAll fs) fun ds _ S => lft (g d ds S)
def appendD : MPrim := fun d ds S => match d, ds with
  | .loc l, [y] => match lstAt S l with
    | some xs => if xs.length < LINE then some (.non, S.set l (.lst (xs ++ [y]))) else none
    | none => none
  | _, _ => none
def extendD : MPrim := fun d ds S => match d, ds with
  | .loc l, [.loc k] => match lstAt S l, lstAt S k with
    | some xs, some ys => if xs.length + ys.length ≤ LINE then some (.non, S.set l (.lst (xs ++ ys))) else none
    | _, _ => none
  | _, _ => none
def popD : MPrim := fun d ds S => match d, ds with
  | .loc l, [] => match lstAt S l with
    | some xs => (xs[xs.length - 1]?).map fun y => (y, S.set l (.lst xs.dropLast))
    | none => none
  | _, _ => none
def popAtD : MPrim := fun d ds S => match d, ds with
  | .loc l, [.int i] => match lstAt S l with
    | some xs => if -(2 ^ 63) ≤ i ∧ i < 2 ^ 63 then match ixN xs.length i with
      | some k => (xs[k]?).map fun y => (y, S.set l (.lst (xs.eraseIdx k)))
      | none => none else none
    | none => none
  | _, _ => none
section
variable {X : Cx} {fa : Gl0} {W : WX} {e o : Expr} {es : List Expr} {pos : Pos}
def xM (R : RC) (g : MPrim) : V → List V → Hp → VK → Prop := fun x xs H Q => ∃ p S d1 ds d S', RS R p S H ∧ RV R p H d1 x ∧ RVs R p H ds xs ∧ g d1 ds S = some (d, S') ∧ ∀ p' H', p <+: p' → Tm p H p' H' → RS R p' S' H' → ∀ v, RV R p' H' d v → Q v H'
theorem tyV_of {p : List Addr} {S : Sto} {H : Hp} {d : D} {v : V} {t : Tn} (rs : RS (rc X fa) p S H) (r : RV (rc X fa) p H d v) (h : tyOf d S = some t) (ht : t = .list ∨ t = .str ∨ t = .int) : tyV X.K t.name v H := by
  cases r with
  | non => cases h; rcases ht with h | h | h <;> cases h
  | bl b => cases h; rcases ht with h | h | h <;> cases h
  | int b => cases h; rfl
  | str b => cases h; rfl
  | tup s v1 => cases h; rcases ht with h | h | h <;> cases h
  | scr s v1 => cases h; exact .inl ⟨rfl, _, s.sq⟩
  | @loc l a e =>
    have h' : (match S[l]? with | some (.lst _) => some Tn.list | some (.dct _) => some Tn.dict | some (.dctZ _) => some Tn.dict | _ => none) = some t := h
    cases e3 : S[l]? with
    | none => rw [e3] at h'; cases h'
    | some o =>
      rw [e3] at h'
      have ro := rs.at_ l o a e3 e
      cases o with
      | lst ys => obtain ⟨vs, g1, g2⟩ := ro; cases h'; exact .inl ⟨rfl, vs, .of g1⟩
      | dct ys => cases h'; rcases ht with h | h | h <;> cases h
      | dcN ys => cases h'
      | dcNZ ys => cases h'
      | dctZ ys => cases h'; rcases ht with h | h | h <;> cases h
  | _ => exact nomatch h
theorem chk_in {t : Tn} {d : D} {n : En} {S : Sto} {B : Type} {f : Unit → E B} {R : RC} {p : List Addr} {H : Hp} {Q : B → List Addr → Sto → Hp → Prop} {W' : Value → Option Addr → Hp → Prop} (h : Aft R p H (eBnd (chkT t d) f n S) Q W') : tyOf d S = some t ∧ Aft R p H (f () n S) Q W' := by
  have h : Aft R p H (rbind (if tyOf d S = some t then .ok () S else .bad) fun a S' => f a n S') Q W' := h
  by_cases c : tyOf d S = some t
  · rw [if_pos c] at h; exact ⟨c, h⟩
  · rw [if_neg c] at h; exact h.elim
/-- a method of the type T -/
structure MtI (X : Cx) (fa : Gl0) (t : Tn) (name : Str) (g : MPrim) : Prop where
  ex : ∃ id : String, PlainAttrs t.name ∧ Slot t.name name id ∧ typeOf (.builtin id) = pure (.type "method_descriptor") ∧ MtR X id (xM (rc X fa) g)
  tn : t = .list ∨ t = .str ∨ t = .int
theorem f_meth {t : Tn} {name : Str} {g : MPrim} {f : E D} {fs : List (E D)} {apos : Pos} (M : MtI X fa t name g) (ho : PE X o (xE (rc X fa) W f)) (ha : PA X (e :: es) (xA (rc X fa) W (eAll fs)))
    (hbase : attributeBase o name X.env (eval o X.env) = eval o X.env)
    (hfew : ((backTo pos (starEach (e :: es) X.env)).all (fun x => !x.1) && (backToKw pos (keywordEach [] X.env)).all (fun x => x.1.isSome)
      && decide ((e :: es).length + ([] : List Keyword).length + (if ([] : List Keyword).isEmpty then 0 else 1) < 30)) = true)
    (hline : (apos.endLine == pos.line) = true) (hs : starEach (e :: es) X.env = (false, eval e X.env) :: starEach es X.env) (hplain : (backTo pos (starEach es X.env)).any (·.1) = false) :
    PE X (.Call (.Attribute o name apos) (e :: es) [] pos) (xE (rc X fa) W (eMeth t g f fs)) := by
  obtain ⟨id, pa, slot, hty, hm⟩ := M.ex
  exact impE (pe_bm pa slot hty hm ho ha hbase hfew hline hs hplain) fun s H Q ⟨p, n, S, rs, re, h⟩ => xE_of rs re h fun d p1 S1 H1 v rs1 re1 hp tm rv h1 => by
    obtain ⟨ht, h2⟩ := chk_in h1
    refine ⟨tyV_of rs1 rv ht M.tn, xA_of rs1 re1 h2 fun ds p2 S2 H2 vs rs2 re2 hp2 t2 rvs h3 => ?_⟩
    obtain ⟨d3, S3, e3, h4⟩ := aft_lft h3
    exact ⟨p2, S2, d, ds, d3, S3, rs2, rv.mono hp2 t2, rvs, e3, h4⟩
theorem f_meth0 {t : Tn} {name : Str} {g : MPrim} {f : E D} {apos : Pos} (M : MtI X fa t name g) (ho : PE X o (xE (rc X fa) W f))
    (hbase : attributeBase o name X.env (eval o X.env) = eval o X.env) (hline : (apos.endLine == pos.line) = true) :
    PE X (.Call (.Attribute o name apos) [] [] pos) (xE (rc X fa) W (eMeth t g f [])) := by
  obtain ⟨id, pa, slot, hty, hm⟩ := M.ex
  exact impE (pe_bm0 pa slot hty hm ho hbase hline) fun s H Q ⟨p, n, S, rs, re, h⟩ => xE_of rs re h fun d p1 S1 H1 v rs1 re1 hp tm rv h1 => by
    obtain ⟨ht, h2⟩ := chk_in h1
    refine ⟨tyV_of rs1 rv ht M.tn, ?_⟩
    obtain ⟨d3, S3, e3, h4⟩ := aft_lft (show Aft (rc X fa) p1 H1 (lft (g d [] S1)) _ _ from h2)
    exact ⟨p1, S1, d, [], d3, S3, rs1, rv, .nil, e3, h4⟩
theorem put_list {p : List Addr} {S : Sto} {H : Hp} {l : Nat} {a : Addr} {xs ys : List D} {us : List V} {d : D} {v : V} {Q : VK} (rs : RS (rc X fa) p S H) (h : p[l]? = some a) (e : lstAt S l = some xs) (ry : RVs (rc X fa) p H ys us) (rd : RV (rc X fa) p H d v)
    (q : ∀ p' H', p <+: p' → Tm p H p' H' → RS (rc X fa) p' (S.set l (.lst ys)) H' → ∀ v, RV (rc X fa) p' H' d v → Q v H') : Q v (upd H a (.lst us)) := by
  obtain ⟨_, g0, _⟩ := rs.list h e
  have T := Tm.mut (H := H) (o := .lst us) (List.mem_of_getElem? h) (nfz_l g0)
  have pre := List.prefix_refl p
  exact q p _ pre T (rs.put (lstAt_of e) h (nfz_l g0) ⟨us, upd_same, ry.mono pre T⟩) v (rd.mono pre T)
theorem m_append : MtI X fa .list "append" appendD := by
  refine ⟨⟨"list.append", PySem.F.plainAttrs_list, PySem.F.slot_list_append, PySem.F.type_list_append, fun pins s σ H x xs v us Q I rx rr ⟨p, S, d1, ds, d, S', rs, r1, rv, e, q⟩ => ?_⟩, .inl rfl⟩
  unfold appendD at e
  split at e
  · split at e
    · split at e
      · rename_i l y ys el hl
        cases e
        cases r1 with
        | loc h =>
          cases rv with
          | cons r2 r3 =>
            cases r3
            obtain ⟨vs, g1, g2⟩ := rs.list h el
            exact mt_append pins s σ H _ _ v us Q I rx rr ⟨_, vs, _, rfl, rfl, g1, by rw [← g2.length, line_eq]; exact hl, put_list rs h el (g2.append (.cons r2 .nil)) .non q⟩
      · cases e
    · cases e
  · cases e
theorem m_extend : MtI X fa .list "extend" extendD := by
  refine ⟨⟨"list.extend", PySem.F.plainAttrs_list, PySem.F.slot_list_extend, PySem.F.type_list_extend, fun pins s σ H x xs v us Q I rx rr ⟨p, S, d1, ds, d, S', rs, r1, rv, e, q⟩ => ?_⟩, .inl rfl⟩
  unfold extendD at e
  split at e
  · split at e
    · split at e
      · rename_i l k ys zs el ek hl
        cases e
        cases r1 with
        | loc h =>
          cases rv with
          | cons r2 r3 =>
            cases r3
            cases r2 with
            | loc h' =>
              obtain ⟨vs, g1, g2⟩ := rs.list h el
              obtain ⟨ws, f1, f2⟩ := rs.list h' ek
              exact mt_extend pins s σ H _ _ v us Q I rx rr ⟨_, _, vs, ws, rfl, rfl, g1, f1, by rw [← g2.length, ← f2.length, line_eq]; exact hl, put_list rs h el (g2.append f2) .non q⟩
      · cases e
    · cases e
  · cases e
theorem m_pop : MtI X fa .list "pop" popD := by
  refine ⟨⟨"list.pop", PySem.F.plainAttrs_list, PySem.F.slot_list_pop, PySem.F.type_list_pop, fun pins s σ H x xs v us Q I rx rr ⟨p, S, d1, ds, d, S', rs, r1, rv, e, q⟩ => ?_⟩, .inl rfl⟩
  unfold popD at e
  split at e
  · split at e
    · rename_i l ys el
      obtain ⟨y, e1, e2⟩ := map_some e
      cases e2
      cases r1 with
      | loc h =>
        cases rv
        obtain ⟨vs, g1, g2⟩ := rs.list h el
        obtain ⟨z, z1, z2⟩ := g2.get e1
        exact mt_pop pins s σ H _ _ v us Q I rx rr ⟨_, vs, z, rfl, rfl, g1, by rw [← g2.length]; exact z1, put_list rs h el g2.dropLast z2 q⟩
    · cases e
  · cases e
end
end Jm

set_option Elab.async false
set_option linter.all false
set_option maxRecDepth 100000
set_option maxHeartbeats 4000000
/-! Jm, part N: calls of the module's defs; list comprehensions as rules. -/
noncomputable section
namespace Jm
open PySem PySem.Spec PyProof.Rows L2
/-- what the module's defs and classes do, by their numbers -/
abbrev CF := Nat → List D → M D
def eCall (m : List D → M D) (fs : List (E D)) : E D := eBnd (eAll fs) fun ds _ S => m ds S
def arr {A : Type} (ix : List Nat) (xs : List A) : List A := ix.filterMap fun i => xs[i]?
def eCallK (m : List D → M D) (n k : Nat) (ix : List Nat) (fs ks : List (E D)) : E D := eBnd (eAll fs) fun ds => eBnd (eAll ks) fun es _ S => if ds.length = n ∧ es.length = k then m (arr ix (ds ++ es)) S else .bad
def spF (R : RC) (m : List D → M D) : Sp := fun vs H Q E => ∃ p S ds, RS R p S H ∧ RVs R p H ds vs ∧ Aft R p H (m ds S) (fun d p' S' H' => ∀ v, RV R p' H' d v → Q v H') E
theorem vals_arr {vs : List V} {us : List Value} (r : Vals vs us) : ∀ ix : List Nat, Vals (arr ix vs) (arr ix us)
  | [] => .nil
  | i :: ix => by
    have ih := vals_arr r ix
    unfold arr at ih ⊢
    cases e : vs[i]? with
    | none =>
      have e2 : us[i]? = none := by
        rw [List.getElem?_eq_none_iff] at e ⊢
        rw [← r.length]; exact e
      simp [List.filterMap_cons, e, e2]
      exact ih
    | some v =>
      obtain ⟨u, hu, rv⟩ := r.get e
      simp [List.filterMap_cons, e, hu]
      exact .cons rv ih
theorem RVs.arr {R : RC} {p : List Addr} {H : Hp} {ds : List D} {vs : List V} (r : RVs R p H ds vs) : ∀ ix : List Nat, RVs R p H (Jm.arr ix ds) (Jm.arr ix vs)
  | [] => .nil
  | i :: ix => by
    have ih := RVs.arr r ix
    unfold Jm.arr at ih ⊢
    cases e : ds[i]? with
    | none =>
      have e2 : vs[i]? = none := by
        rw [List.getElem?_eq_none_iff] at e ⊢
        rw [← r.length]; exact e
      simp [List.filterMap_cons, e, e2]
      exact ih
    | some v =>
      obtain ⟨u, hu, rv⟩ := r.get e
      simp [List.filterMap_cons, e, hu]
      exact .cons rv ih
/-- the keywords' values -/
def xP (R : RC) (W : WX) (f : E (List D)) : TA := xA R W f
section
variable {X : Cx} {fa : Gl0} {W : WX} {e : Expr} {es : List Expr} {pos : Pos} {k : Nat} {f : Addr} {fd : FuncData} {ps ks : List Str} {x : Str} {m : List D → M D} {fs gs : List (E D)} {p : Pos}
theorem f_call (F : FnOk X.prog X.w X.K X.mg X.base (L2.CX X.prog X.w) k f fd ps (spF (rc X fa) m)) (tk : Takes X W) (hr : Room k X.A) (hg : Gl X x) (hm : X.mg x = some (.ref f)) (hk : PySem.W.keepIn X.K (.ref f) = true) (hb : Binds X.K fd ps [])
    (ha : PA X (e :: es) (xA (rc X fa) W (eAll fs))) (hdb : (x == ("__debug__" : Str)) = false) (he : starEach (e :: es) X.env = (false, eval e X.env) :: starEach es X.env) (hpl : (backTo pos (starEach es X.env)).any (·.1) = false) :
    PE X (.Call (.Name x p) (e :: es) [] pos) (xE (rc X fa) W (eCall m fs)) :=
  impE (pe_callS (E := WE W) F hr hg hm hk hb (passAt tk) ha hdb he hpl) fun s H Q ⟨p, n, S, rs, re, h⟩ => xA_of rs re h fun ds p1 S1 H1 vs rs1 re1 hp t rv h1 => ⟨p1, S1, ds, rs1, rv, h1⟩
theorem f_call0 (F : FnOk X.prog X.w X.K X.mg X.base (L2.CX X.prog X.w) k f fd ps (spF (rc X fa) m)) (tk : Takes X W) (hr : Room k X.A) (hg : Gl X x) (hm : X.mg x = some (.ref f)) (hk : PySem.W.keepIn X.K (.ref f) = true) (hb : Binds X.K fd ps [])
    (hdb : (x == ("__debug__" : Str)) = false) : PE X (.Call (.Name x p) [] [] pos) (xE (rc X fa) W (eCall m [])) := by
  refine ⟨fun pins s σ H Q I h => ?_⟩
  refine wpAny_Call_Name_kw (ld_glob I hg hm ?_ hdb)
  obtain ⟨p, n, S, rs, re, h⟩ := h
  exact PySem.W.callWith_K0 I.kIn hk (run_fnS (E := WE W) (us := []) F hr hb (passAt tk σ) I .nil ⟨p, S, [], rs, .nil, h⟩)
theorem run_fnSN {CX : CXT} {n : Nat} {sp : Sp} {E : L2.St → XK} {g : List Value → List Value → List Value} {gV : List V → List V → List V} {pins : List (Addr × Obj)} {σ : L2.St} {H : Hp} {s : Shared} {Q : VK} {us ws : List Value} {vs zs : List V} (F : FnOk X.prog X.w X.K X.mg X.base CX k f fd ps sp) (hr : Room k X.A) (hb : KBn X.K fd ps n ks g gV) (hx : PassesAt CX X σ (E σ))
    (I : Inv X pins σ H s) (r : Vals vs us) (rz : Vals zs ws) (l1 : vs.length = n) (l2 : zs.length = ks.length) (h : sp (gV vs zs) H Q (E σ)) : wpAny (model X.prog X.w) X.A (call (.ref f) us (ks.zip ws)) (EP X pins σ Q) X.xe s := by
  have r2 := hb.rel r rz
  refine wpAny_call (codeAny_mono (F.run X.A X.stack s H ⟨us, ks.zip ws⟩ (g us ws) (gV vs zs) Q (E σ) hr I.env0 (hb.to s us ws I.kIn (r.length.symm.trans l1) (rz.length.symm.trans l2)) r2 h) fun r s' hq => ?_)
  cases r with
  | error e => exact hx pins H s e s' I hq
  | ok fl =>
    cases fl with
    | ret u => exact I.after hq
    | next => exact False.elim hq
    | brk => exact False.elim hq
    | cont => exact False.elim hq
/-- the keywords, from the left -/
theorem f_knil : PK X [] (xA (rc X fa) W (eAll [])) := ⟨fun pos pins s σ H Q I ⟨p, n, S, rs, re, h⟩ => pk_nil.run pos pins s σ H Q I (aft_ok rs h [] .nil)⟩
theorem f_kcons {f : E D} {fs : List (E D)} {nm : Option Str} {kpos : Pos} {kws : List Keyword} (ha : PE X e (xE (rc X fa) W f)) (hr : PK X kws (xA (rc X fa) W (eAll fs))) : PK X (⟨nm, e, kpos⟩ :: kws) (xA (rc X fa) W (eAll (f :: fs))) :=
  ⟨fun pos pins s σ H Q I ⟨p, n, S, rs, re, h⟩ => (pk_cons ha hr).run pos pins s σ H Q I (xE_of rs re h fun d p1 S1 H1 v rs1 re1 hp t rv h1 =>
    xA_of rs1 re1 h1 fun ds p2 S2 H2 vs rs2 re2 hp2 t2 rvs h2 => aft_ok rs2 h2 _ (.cons (rv.mono hp2 t2) rvs))⟩
theorem f_callK {n : Nat} {ix : List Nat} {kws : List Keyword} (F : FnOk X.prog X.w X.K X.mg X.base (L2.CX X.prog X.w) k f fd ps (spF (rc X fa) m)) (tk : Takes X W) (hr : Room k X.A) (hg : Gl X x) (hm : X.mg x = some (.ref f)) (hk : PySem.W.keepIn X.K (.ref f) = true)
    (hb : KBn X.K fd ps n ks (fun us ws => arr ix (us ++ ws)) (fun vs zs => arr ix (vs ++ zs))) (ha : PA X (e :: es) (xA (rc X fa) W (eAll fs))) (hkw : PK X kws (xA (rc X fa) W (eAll gs)))
    (hall : (backToKw pos (keywordEach kws X.env)).all (·.1.isSome) = true) (hks : (backToKw pos (keywordEach kws X.env)).filterMap (·.1) = ks)
    (hdb : (x == ("__debug__" : Str)) = false) (he : starEach (e :: es) X.env = (false, eval e X.env) :: starEach es X.env)
    (hpl : ((backTo pos (starEach (e :: es) X.env)).any (·.1) || (backToKw pos (keywordEach kws X.env)).any (·.1.isNone)) = false) :
    PE X (.Call (.Name x p) (e :: es) kws pos) (xE (rc X fa) W (eCallK m n ks.length ix fs gs)) := by
  refine ⟨fun pins s σ H Q I ⟨p, n', S, rs, re, h⟩ => ?_⟩
  refine wpAny_Call_Name_kw (ld_glob I hg hm ?_ hdb)
  have h' : xA (rc X fa) W (eAll fs) σ H (fun vs H1 => xA (rc X fa) W (eAll gs) σ H1 fun zs H2 => vs.length = n ∧ zs.length = ks.length ∧ spF (rc X fa) m (arr ix (vs ++ zs)) H2 Q (WE W σ)) :=
    xA_of rs re h fun ds p1 S1 H1 vs rs1 re1 hp t rv h1 => xA_of rs1 re1 h1 fun es' p2 S2 H2 zs rs2 re2 hp2 t2 rz h2 => by
      split at h2
      · rename_i hl
        refine ⟨by rw [← rv.length]; exact hl.1, by rw [← rz.length]; exact hl.2, p2, S2, arr ix (ds ++ es'), rs2, ((rv.mono hp2 t2).append rz).arr ix, h2⟩
      · exact h2.elim
  refine PySem.W.callWith_KW (h₀ := X.base) I.ok.mod.kin hk hall (thn (ha.run pos pins s σ H _ I h') fun us s1 ⟨vs, H1, I1, r, q⟩ => ?_) hpl he
  refine thn (hkw.run pos pins s1 σ H1 _ I1 q) fun ws s2 ⟨zs, H2, I2, rz, l1, l2, q2⟩ => ⟨I2.kIn, ?_⟩
  rw [hks]
  exact run_fnSN F hr hb (passAt tk σ) I2 r rz l1 l2 q2
theorem f_callK0 {n : Nat} {ix : List Nat} {kws : List Keyword} (F : FnOk X.prog X.w X.K X.mg X.base (L2.CX X.prog X.w) k f fd ps (spF (rc X fa) m)) (tk : Takes X W) (hr : Room k X.A) (hg : Gl X x) (hm : X.mg x = some (.ref f)) (hk : PySem.W.keepIn X.K (.ref f) = true)
    (hb : KBn X.K fd ps n ks (fun us ws => arr ix (us ++ ws)) (fun vs zs => arr ix (vs ++ zs))) (hkw : PK X kws (xA (rc X fa) W (eAll gs)))
    (hall : (backToKw pos (keywordEach kws X.env)).all (·.1.isSome) = true) (hks : (backToKw pos (keywordEach kws X.env)).filterMap (·.1) = ks)
    (hdb : (x == ("__debug__" : Str)) = false) 
    (hpl : ((backTo pos (starEach [] X.env)).any (·.1) || (backToKw pos (keywordEach kws X.env)).any (·.1.isNone)) = false) :
    PE X (.Call (.Name x p) [] kws pos) (xE (rc X fa) W (eCallK m n ks.length ix [] gs)) := by
  refine ⟨fun pins s σ H Q I ⟨p, n', S, rs, re, h⟩ => ?_⟩
  refine wpAny_Call_Name_kw (ld_glob I hg hm ?_ hdb)
  have h' : xA (rc X fa) W (eAll gs) σ H (fun zs H2 => 0 = n ∧ zs.length = ks.length ∧ spF (rc X fa) m (arr ix ([] ++ zs)) H2 Q (WE W σ)) :=
    xA_of rs re (show Aft (rc X fa) p H (eBnd (eAll gs) (fun es _ S => if ([] : List D).length = n ∧ es.length = ks.length then m (arr ix ([] ++ es)) S else .bad) n' S) _ _ from h) fun es' p2 S2 H2 zs rs2 re2 hp2 t2 rz h2 => by
      split at h2
      · rename_i hl
        refine ⟨hl.1, by rw [← rz.length]; exact hl.2, p2, S2, arr ix ([] ++ es'), rs2, (RVs.append .nil rz).arr ix, h2⟩
      · exact h2.elim
  refine PySem.W.callWith_KW0 (h₀ := X.base) I.ok.mod.kin hk hall (thn (hkw.run pos pins s σ H _ I h') fun ws s2 ⟨zs, H2, I2, rz, l1, l2, q2⟩ => ⟨I2.kIn, ?_⟩) hpl
  rw [hks]
  exact run_fnSN (us := []) (vs := []) F hr hb (passAt tk σ) I2 .nil rz l1 l2 q2
/-! ### list comprehensions -/
theorem f_tests0 : PTs X [] (xT (rc X fa) W tTru) := ⟨fun pins s σ H Q I ⟨p, n, S, rs, re, h⟩ => pts_nil.run pins s σ H Q I (aft_ok rs h)⟩
theorem f_lc {elt tg iter : Expr} {ifs : List Expr} {scope : Scope} {own : List (Str × Nat)} {f : E Itn} {g : G} {t : E Bool} {fe : E D} (hc : X.calm = true) (hN : X.N.Nodup) (hi : PI X tg iter (xI (rc X fa) W f)) (ok : BlkOk X.N X.env.scope scope own)
    (hg : ∀ (s : Shared) (H : Hp) (C : Addr) (cl : List (Str × Addr)) (fp : List Addr), PG (X.blk s H scope (compEnvC scope cl C X.env) fp) tg (xG (rc X fa) W0 (own.map (·.2)) g)) (ht : ∀ (s : Shared) (H : Hp) (C : Addr) (cl : List (Str × Addr)) (fp : List Addr), PTs (X.blk s H scope (compEnvC scope cl C X.env) fp) ifs (xT (rc X fa) W0 t))
    (he : ∀ (s : Shared) (H : Hp) (C : Addr) (cl : List (Str × Addr)) (fp : List Addr), PE (X.blk s H scope (compEnvC scope cl C X.env) fp) elt (xE (rc X fa) W0 fe)) (hs : ∀ x, foldedSetIterable iter X.env x = pure x) :
    PE X (.ListComp elt [⟨tg, iter, ifs, 0⟩] scope pos) (xE (rc X fa) W (eLc f (own.map (·.2)) g t fe)) :=
  impE (pe_lc hc hN hi ok hg ht he hs) fun s H Q h => lc_in h
/-- name = [..] -/
theorem f_setlc {i : Nat} {y : Str} {py spos : Pos} {elt tg iter : Expr} {ifs : List Expr} {scope : Scope} {own : List (Str × Nat)} {f : E Itn} {g : G} {t : E Bool} {fe : E D} (hc : X.calm = true) (hN : X.N.Nodup) (hy : X.N[i]? = some y) (hyl : X.env.scope.names.lookup y = some .local)
    (hsw : swapsWith (.ListComp elt [⟨tg, iter, ifs, 0⟩] scope pos) (some (.Name y py)) spos.line X.env = pure true) (hi : PI X tg iter (xI (rc X fa) W f)) (ok : BlkOk X.N X.env.scope scope own)
    (hg : ∀ (s : Shared) (H : Hp) (C : Addr) (cl : List (Str × Addr)) (fp : List Addr), PG (X.blk s H scope (compEnvC scope cl C X.env) fp) tg (xG (rc X fa) W0 (own.map (·.2)) g)) (ht : ∀ (s : Shared) (H : Hp) (C : Addr) (cl : List (Str × Addr)) (fp : List Addr), PTs (X.blk s H scope (compEnvC scope cl C X.env) fp) ifs (xT (rc X fa) W0 t))
    (he : ∀ (s : Shared) (H : Hp) (C : Addr) (cl : List (Str × Addr)) (fp : List Addr), PE (X.blk s H scope (compEnvC scope cl C X.env) fp) elt (xE (rc X fa) W0 fe)) (hs : ∀ x, foldedSetIterable iter X.env x = pure x) :
    PS X (.Assign [.Name y py] (.ListComp elt [⟨tg, iter, ifs, 0⟩] scope pos) spos) (xS (rc X fa) W (sAsgn (eLc f (own.map (·.2)) g t fe) (gNam i))) :=
  impS (ps_setLc hc hN hy hyl hsw hi ok hg ht he hs) fun D0 s H ⟨p, n, S, rs, re, h⟩ => lc_in ⟨p, n, S, rs, re, sE_of rs re h fun d p1 S1 H1 rs1 re1 hp t h1 v rv => aft_ok rs1 h1 _ (re1.set rv)⟩
end
end Jm

set_option Elab.async false
set_option linter.all false
set_option maxRecDepth 100000
set_option maxHeartbeats 4000000
/-! Jm, part W: sorted of ints, list(range(n)), pop(i). -/
noncomputable section
namespace Jm
open PySem PySem.Spec PyProof.Rows L2
/-! ### a sort that the kernel can do -/
section
variable {A : Type}
def insL (le : A → A → Bool) (a : A) : List A → List A
  | [] => [a]
  | b :: r => if le a b = true then a :: b :: r else b :: insL le a r
def isort (le : A → A → Bool) : List A → List A
  | [] => []
  | a :: r => insL le a (isort le r)
theorem ins_app {le : A → A → Bool} {a : A} : ∀ {l k : List A}, (∀ b ∈ l, (!le a b) = true) → (∀ b ∈ k, le a b = true) → insL le a (l ++ k) = l ++ a :: k
  | [], [], _, _ => rfl
  | [], b :: k, _, h => by
    show (if le a b = true then a :: b :: k else b :: insL le a k) = _
    rw [if_pos (h b List.mem_cons_self)]; rfl
  | b :: l, k, h1, h2 => by
    have n : ¬ le a b = true := by simpa using h1 b List.mem_cons_self
    show (if le a b = true then a :: b :: (l ++ k) else b :: insL le a (l ++ k)) = _
    rw [if_neg n, ins_app (fun x hx => h1 x (List.mem_cons_of_mem _ hx)) h2]; rfl
theorem merge_isort {le : A → A → Bool} (tr : ∀ a b c, le a b = true → le b c = true → le a c = true) (tot : ∀ a b, (le a b || le b a) = true) : ∀ l : List A, l.mergeSort le = isort le l
  | [] => by simp [isort]
  | a :: l => by
    obtain ⟨l1, l2, e1, e2, e3⟩ := List.mergeSort_cons tr tot a l
    have s := List.pairwise_mergeSort tr tot (a :: l)
    rw [e1] at s
    rw [e1]
    show _ = insL le a (isort le l)
    rw [← merge_isort tr tot l, e2, ins_app e3 fun b hb => (List.pairwise_cons.mp (List.pairwise_append.mp s).2.1).1 b hb]
end
def leI (a b : Int) : Bool := decide (a ≤ b)
def sortI (ns : List Int) : List Int := isort leI ns
theorem sortI_eq (ns : List Int) : sortI ns = ns.mergeSort leI := (merge_isort (fun a b c h1 h2 => by unfold leI at *; simp at *; omega) (fun a b => by unfold leI; simp; omega) ns).symm
theorem sortI_perm (ns : List Int) : (sortI ns).Perm ns := by rw [sortI_eq]; exact List.mergeSort_perm ns _
theorem sortI_up (ns : List Int) : (sortI ns).Pairwise (· ≤ ·) := by
  rw [sortI_eq]
  have := List.pairwise_mergeSort (le := leI) (fun a b c h1 h2 => by unfold leI at *; simp at *; omega) (fun a b => by unfold leI; simp; omega) ns
  exact this.imp fun {a b} h => by unfold leI at h; simpa using h
theorem sortI_of {ns ms : List Int} (h : ms.Perm ns) (u : ms.Pairwise (· ≤ ·)) : ms = sortI ns :=
  (h.trans (sortI_perm ns).symm).eq_of_pairwise (le := fun a b : Int => a ≤ b) (fun a b _ _ h1 h2 => by omega) u (sortI_up ns)
def sortedD : Prim := fun ds S => match ds with
  | [.loc l] => match lstAt S l with
    | some xs => match asInts xs with
      | some ns => mkLst ((sortI ns).map .int) S
      | none => none
    | none => none
  | _ => none
theorem rvs_intL {R : RC} {p : List Addr} {H : Hp} : ∀ ns : List Int, RVs R p H (ns.map D.int) (ns.map V.int)
  | [] => .nil
  | n :: ns => .cons (.int n) (rvs_intL ns)
section
variable {X : Cx} {fa : Gl0} {W : WX} {e a : Expr} {es : List Expr} {pos : Pos}
theorem call_sortedJ : CallR X (.builtin "sorted") (xN (rc X fa) sortedD) := by
  intro pins s σ H xs us Q I rr ⟨p, S, ds, d, S', rs, rv, e, q⟩
  unfold sortedD at e
  split at e
  · split at e
    · rename_i ys e1
      split at e
      · rename_i ns e2
        cases rv with
        | cons r1 r2 =>
          cases r2
          cases r1 with
          | loc h =>
            obtain ⟨vs, g1, g2⟩ := rs.list h e1
            have g3 := asInts_ok g2 e2
            subst g3
            refine cr_sortedI pins s σ H _ us Q I rr ⟨_, ns, rfl, .of g1, fun ns' a h1 h2 h3 => ?_⟩
            rw [sortI_of h1 h2]
            exact (new_list rs (rvs_intL _) e q).2 a h3
      · cases e
    · cases e
  · cases e
/-! ### list(range(n)) -/
def rgD (k : Nat) : List D := (List.range k).map fun i => D.int (i : Nat)
def lstRg (d : D) (S : Sto) : Option (D × Sto) := match d with
  | .int n => if decide (n.natAbs ≤ LINE) = true then mkLst (rgD n.toNat) S else none
  | _ => none
theorem rvs_rg {R : RC} {p : List Addr} {H : Hp} {f : Nat → Int} : ∀ l : List Nat, RVs R p H (l.map fun i => D.int (f i)) (l.map fun i => V.int (f i))
  | [] => .nil
  | n :: ns => .cons (.int _) (rvs_rg ns)
theorem f_lstRg {f : E D} {q1 q2 pos2 : Pos} (hc : X.calm = true) (hg : Gl X "list") (hm : X.mg "list" = none) (hg2 : Gl X "range") (hm2 : X.mg "range" = none) (ha : PE X a (xE (rc X fa) W f)) (na : starEach [a] X.env = (false, eval a X.env) :: starEach [] X.env) :
    PE X (.Call (.Name "list" q1) [.Call (.Name "range" q2) [a] [] pos2] [] pos) (xE (rc X fa) W (eOp1 lstRg f)) :=
  impE (pe_listRg hc hg hm (prg_1 hg2 hm2 ha na)) fun s H Q ⟨p, n, S, rs, re, h⟩ => xE_of rs re h fun d p1 S1 H1 v rs1 re1 hp t rv h1 => by
    obtain ⟨d3, S3, e3, h3⟩ := aft_lft h1
    unfold lstRg at e3
    split at e3
    · rename_i j
      split at e3
      · rename_i hj
        have hj := of_decide_eq_true hj
        cases rv
        refine ⟨j, rfl, ?_, fun q hq => ?_⟩
        · unfold LINE at hj
          exact ⟨by omega, by omega, by omega, by omega, by omega⟩
        · have e4 : rgV 0 j = (List.range j.toNat).map fun i => V.int ((fun i : Nat => (i : Int)) i) := by
            unfold rgV
            rw [Int.sub_zero]
            exact List.map_congr_left fun i _ => by rw [Int.zero_add]
          rw [e4]
          exact (new_list rs1 (rvs_rg (f := fun i => (i : Int)) (List.range j.toNat)) e3 h3).2 q hq
      · cases e3
    · cases e3
/-! ### pop(i) -/
def popA (l : Nat) (i : Int) (S : Sto) : Option (D × Sto) := match lstAt S l with
  | some xs => if decide (i.natAbs ≤ LINE) = true then (match ixN xs.length i with
    | some k => (xs[k]?).map fun y => (y, S.set l (.lst (xs.eraseIdx k)))
    | none => none) else none
  | none => none
def popXD : MPrim := fun d ds S => match d, ds with
  | d, [] => popD d [] S
  | .loc l, [.int i] => popA l i S
  | _, _ => none
theorem m_popX : MtI X fa .list "pop" popXD := by
  have M := m_pop (X := X) (fa := fa)
  obtain ⟨_, _, _, _, _⟩ := M.ex
  refine ⟨⟨"list.pop", PySem.F.plainAttrs_list, PySem.F.slot_list_pop, PySem.F.type_list_pop, fun pins s σ H x xs v us Q I rx rr ⟨p, S, d1, ds, d, S', rs, r1, rv, e, q⟩ => ?_⟩, .inl rfl⟩
  unfold popXD at e
  split at e
  · unfold popD at e
    split at e
    · split at e
      · rename_i l ys el
        obtain ⟨y, e1, e2⟩ := map_some e
        cases e2
        cases r1 with
        | loc h =>
          cases rv
          obtain ⟨vs, g1, g2⟩ := rs.list h el
          obtain ⟨z, z1, z2⟩ := g2.get e1
          exact mt_pop pins s σ H _ _ v us Q I rx rr ⟨_, vs, z, rfl, rfl, g1, by rw [← g2.length]; exact z1, put_list rs h el g2.dropLast z2 q⟩
      · cases e
    · cases e
  · rename_i l i
    unfold popA at e
    split at e
    · rename_i ys el
      split at e
      · rename_i hi
        have hi := of_decide_eq_true hi
        split at e
        · rename_i k ek
          obtain ⟨y, e1, e2⟩ := map_some e
          cases e2
          cases r1 with
          | loc h =>
            cases rv with
            | cons r2 r3 =>
              cases r3
              cases r2
              obtain ⟨vs, g1, g2⟩ := rs.list h el
              obtain ⟨z, z1, z2⟩ := g2.get e1
              unfold LINE at hi
              exact mt_popAt pins s σ H _ _ v us Q I rx rr ⟨_, vs, i, k, z, rfl, rfl, g1, by omega, by omega, by rw [← g2.length]; exact (ixN_seq ek).1, z1, put_list rs h el (g2.eraseIdx k) z2 q⟩
        · cases e
      · cases e
    · cases e
  · cases e
end
end Jm

set_option Elab.async false
set_option linter.all false
set_option maxRecDepth 100000
set_option maxHeartbeats 4000000
/-! Jm, part X: raise, try. -/
noncomputable section
namespace Jm
open PySem PySem.Spec PyProof.Rows L2
/-- raise C(e) -/
def sRaise (i : Nat) (fs : List (E D)) : E Out := sBnd (eAll fs) fun ds n S => if ds.length = 1 then .ok (.er i ds n) S else .bad
/-- the promise of C's own __init__: the one field is stored -/
def spInit (C : Addr) (f : Str) : Sp := fun vs H Q _ => ∃ (a : Addr) (y : V), vs = [.ref a, y] ∧ H a = some (exo a C none) ∧ ∀ dx, H dx = none → dx ≠ a → Q .non (upd (upd H dx (exd dx [(f, y)])) a (exo a C (some dx)))
/-- what is known of an own exception class with a field -/
structure ClsI (P : Program) (w : World) (K : PySem.W.Frag) (mg : Str → Option Value) (base : Heap) (C : Addr) (f : Str) : Prop where
  ox : OexC K C
  ini : ∃ (fI : Addr) (fd : FuncData) (ps : List Str), PySem.W.findIn K (.ref C) "__init__" = some (some (.ref fI)) ∧ PySem.W.typeIn K (.ref fI) = some (.type "function") ∧ FnOk P w K mg base (L2.CX P w) 1 fI fd ps (spInit C f) ∧ Binds K fd ps [] ∧ KBn K fd ps 1 [f] (fun us ws => us ++ ws) (fun vs zs => vs ++ zs)
section
variable {X : Cx} {fa : Gl0} {W : WX} {e : Expr} {pos : Pos} {i : Nat} {fs : List (E D)} {p pos2 : Pos}
theorem f_raise {x : Str} {f : Str} (hf : f = fldName i) (hc : X.calm = true) (tk : Takes X W) (hr : Room 2 X.A) (I : ClsI X.prog X.w X.K X.mg X.base (fa.fa i) f) (hg : Gl X x) (hm : X.mg x = some (.ref (fa.fa i))) (ha : PA X [e] (xA (rc X fa) W (eAll fs)))
    (hdb : (x == ("__debug__" : Str)) = false) (he : starEach [e] X.env = (false, eval e X.env) :: starEach [] X.env) : PS X (.Raise (some (.Call (.Name x p) [e] [] pos)) none pos2) (xS (rc X fa) W (sRaise i fs)) := by
  obtain ⟨fI, fd, ps, h1, h2, F, hb, _⟩ := I.ini
  subst hf
  refine impS (ps_raise hc tk (pmk_oex (dvs := []) (ds := []) I.ox h1 h2 F hr hb .nil (fun _ _ _ _ _ _ _ h => by
    obtain ⟨_, _, _, _, _, _, _, _, _, _, _, _, z⟩ := h
    exact z.elim) hg hm ha hdb he rfl)) fun D0 s H ⟨q, n, S, rs, re, h⟩ => ?_
  refine ⟨q, n, S, rs, re, sE_of rs re h fun ds p1 S1 H1 rs1 re1 hp1 t1 h1 vs rv => ?_⟩
  split at h1
  · rename_i hl
    obtain ⟨d, rfl⟩ : ∃ d, ds = [d] := by
      cases ds with
      | nil => cases hl
      | cons d ds =>
        cases ds with
        | nil => exact ⟨d, rfl⟩
        | cons _ _ => cases hl
    cases rv with
    | @cons _ v _ _ r r0 =>
      cases r0
      refine ⟨by simp, fun a hna => ⟨a, v, rfl, upd_same, fun dx hd hda => ⟨rfl, dx, [(fldName i, v)], upd_same, by rw [upd_ne hda]; exact upd_same, ?_, ?_⟩⟩⟩
      · rw [upd_ne hda] at hd; exact hd
      · rw [upd_ne hda] at hd
        have same : ∀ b u, H1 b = some u → upd (del (upd (upd (upd H1 a (exo a (fa.fa i) none)) dx (exd dx [(fldName i, v)])) a (exo a (fa.fa i) (some dx))) a) dx (.xd [(fldName i, v)]) b = some u := fun b u e => by
          have n1 : b ≠ dx := ne_of_none e hd
          have n2 : b ≠ a := ne_of_none e hna
          rw [upd_ne n1, del_ne n2, upd_ne n2, upd_ne n1, upd_ne n2]; exact e
        have T : Tm p1 H1 p1 (upd (del (upd (upd (upd H1 a (exo a (fa.fa i) none)) dx (exd dx [(fldName i, v)])) a (exo a (fa.fa i) (some dx))) a) dx (.xd [(fldName i, v)])) := ⟨fun b u nb e => ⟨nb, same b u e⟩, fun b o u e => same b _ e⟩
        have rs2 := rs1.mono T fun b u _ e => same b u e
        have pre := List.prefix_refl p1
        exact h1 p1 _ pre T rs2 s _ _ (re1.mono pre T) ⟨rfl, .inr ⟨dx, d, v, rfl, rfl, rs1.nin hd, upd_same, r.mono pre T⟩⟩
  · exact h1.elim
end
end Jm

set_option Elab.async false
set_option linter.all false
set_option maxRecDepth 100000
set_option maxHeartbeats 4000000
/-! Jm, part Y: try with clauses of any kind, one behind another. -/
noncomputable section
namespace Jm
open PySem PySem.Spec PyProof.Rows L2
/-- a clause: the class, the name's slot, the suite's reading -/
abbrev Cl := Value × Option Nat × (Addr → Value → Option Addr → TS)
/-- what is wanted behind a suite whose name goes -/
def offName (D0 : Ends) : Option Nat → Ends
  | none => D0
  | some i => { nx := fun s H => D0.nx (s.set i none) H, rt := D0.rt, bk := fun s H => D0.bk (s.set i none) H, ct := fun s H => D0.ct (s.set i none) H }
def onName (s : L2.St) (a : Addr) : Option Nat → L2.St
  | none => s
  | some i => s.set i (some (.ref a))
def wCl (K : PySem.W.Frag) (W : WX) (D0 : Ends) : List Cl → WX
  | [] => W
  | (c, o, ts) :: r => fun cls dd s H => ∃ b, PySem.W.exmOne K cls c = some b ∧ (b = true → ∀ a, H a = none → ts a cls dd (offName D0 o) (onName s a o) H) ∧ (b = false → wCl K W D0 r cls dd s H)
/-- a suite, in the context of its exception -/
def SuOk (X : Cx) (sts : List Stmt) (ts : Addr → Value → Option Addr → TS) : Prop :=
  ∀ (a : Addr) (oe : Obj) (cls : Value) (dd : Option Addr) (pn : List (Addr × Obj)), Zc cls dd oe → (∃ vs, oe.data = .fields vs) → PSs (X.suite a ((a, oe) :: pn)) sts (ts a cls dd)
inductive ClsOk (X : Cx) : List ExceptHandler → List Cl → Prop
  | nil : ClsOk X [] []
  | bare {x : Str} {c : Value} {ts : Addr → Value → Option Addr → TS} {b : Stmt} {su : List Stmt} {np q : Pos} {hs : List ExceptHandler} {l : List Cl} : Names X x c → SuOk X (b :: su) ts → ClsOk X hs l → ClsOk X (.ExceptHandler (some (.Name x np)) none (b :: su) q :: hs) ((c, none, ts) :: l)
  | named {x n : Str} {i : Nat} {c : Value} {ts : Addr → Value → Option Addr → TS} {b : Stmt} {su : List Stmt} {np q : Pos} {hs : List ExceptHandler} {l : List Cl} : Names X x c → X.N[i]? = some n → X.env.kindOf n = some .local → SuOk X (b :: su) ts → ClsOk X hs l →
      ClsOk X (.ExceptHandler (some (.Name x np)) (some n) (b :: su) q :: hs) ((c, some i, ts) :: l)
section
variable {X : Cx} {W : WX} {D0 : Ends} {pins : List (Addr × Obj)}
/-- an exception that was caught, on the ground: the clauses are asked -/
theorem ask_clauses (hst : X.stack = X.env :: X.outer) (hfr : X.env.frame = some X.env.locals) (hN : X.N.Nodup) (tk : Takes X W) {a : Addr} {B : Heap} {st0 st : Shared} {σ : L2.St} {H : Hp} {cls : Value} {dd : Option Addr} {g : Heap}
    (J : Inv X pins σ H st0) (nb : ∀ b o, st0.heap.get? b = some o → b ∉ frs X.stack → B.get? b = some o) (up : st0.heap.UpToSlots st.heap) (na : H a = none) (os : st.os = st0.os) (ag : AllBare st.gens) (fl : HandSPX.FlyingZ B (X.env :: X.outer) a (Zc cls dd) g) (up3 : st.heap.UpToSlots g)
    {hs : List ExceptHandler} {l : List Cl} (hk : ClsOk X hs l) (w : wCl X.K W D0 l cls dd σ H) : wpAny (model X.prog X.w) X.A (handleBy (.ref a) X.env hs) (SP X pins D0) X.xe { st with heap := g } := by
  have land := fun (g' : Heap) (q : HandSPX.FlyingZ B (X.env :: X.outer) a (Zc cls dd) g') (u : st.heap.UpToSlots g') => J.landed (s' := { st with heap := g' }) nb q.1 (up.trans u) os ag
  have J3 := land g fl up3
  obtain ⟨oe, vs, he, hz, hd⟩ := fl.there
  have apart : ∀ (g' : Heap) (o : Obj) (us : Array Value), g'.FunFrames B (X.env :: X.outer) → g'.get? a = some o → o.data = .fields us → a ∉ frs (X.env :: X.outer) := by
    intro g' o us ff e d hm
    obtain ⟨_, o2, e2, no⟩ := ff.mem hm
    cases e.symm.trans e2
    exact no us d
  have away := apart g oe vs fl.2.2.1 he hd
  have awayL : a ≠ X.env.locals := by
    intro z
    refine away (List.mem_filterMap.mpr ⟨X.env, List.mem_cons_self, ?_⟩)
    rw [hfr, z]
  have awayF : a ∉ X.fs := by
    intro hm
    obtain ⟨en, h1, h2⟩ := List.mem_filterMap.mp hm
    exact away (List.mem_filterMap.mpr ⟨en, List.mem_cons_of_mem _ h1, h2⟩)
  have asks : ∀ {x : Str} {c : Value} {np : Pos} {Q : Value → Shared → Prop} {E : Value → Shared → Prop}, Names X x c → Q c { st with heap := g } →
      wpAny (model X.prog X.w) (X.A.mark (some (.ref a))) (eval (.Name x np) X.env) Q E { st with heap := g } := by
    intro x c np Q E hc q
    have S3 := J3.suite he hd na awayL awayF
    obtain ⟨k1, k2, k3⟩ := hc
    rcases k3 with k3 | ⟨k3, k4, k5⟩
    · exact ld_glob (X := X.suite a ((a, oe) :: (X.pn ++ pins))) S3 k1 k3 q k2
    · exact ld_blt (X := X.suite a ((a, oe) :: (X.pn ++ pins))) S3 k1 k3 k4 q k5 k2
  have LT : PySem.W.Looks (model X.prog X.w) g (typeOf (.ref a)) cls := by
    intro A Q E s k q
    refine wpAny_typeOf_ref (k _ _ he) ?_
    rw [hz.1]; exact q
  induction hk with
  | nil =>
    refine wpAny_handleBy_nil ?_
    have rise : wpAny (model X.prog X.w) X.A (setFlight (.ref a) X.env.frame) (fun _ s4 => wpAny (model X.prog X.w) X.A (throw (.ref a) : Sem Flow) (SP X pins D0) X.xe s4) X.xe { st with heap := g } := by
      rw [hfr]
      refine HandSPX.setFlight_upZ fl fun g4 hh up4 => wpAny_throw (tk _ _ ?_)
      refine ⟨a, B, st0, pins, σ, H, cls, dd, rfl, J, nb, (up.trans up3).trans up4, .inr (.inr ?_), na, os, ag, w⟩
      rw [hst]; exact hh
    obtain ⟨_, _, _, o, us, T0, o2, ts2, h1, _, h3, h4, _⟩ := id fl
    unfold PySem.passOn
    refine wpAny_bind (wpAny_field h1 h3 h4 ?_)
    rw [if_neg (by simp)]
    first
      | exact wpAny_bind rise
      | exact wpAny_bind (wpAny_pure (wpAny_bind rise))
  | bare hc hsu r ih =>
    obtain ⟨b, hb, yes, no⟩ := w
    refine wpAny_handleBy_cons (codeAny_handlers_test ?_) (fun z => nomatch z)
    refine asks hc ((PySem.W.exm_one (M := model X.prog X.w) J3.kIn LT hb).here ?_)
    cases b with
    | false => exact ih (no rfl)
    | true =>
      refine codeAny_handlers_suite (HandSPX.lands_againZ fl fun g4 fl4 up4 => ?_)
      have J4 := land g4 fl4 (up3.trans up4)
      obtain ⟨oe4, vs4, he4, hz4, hd4⟩ := fl4.there
      have S4 := J4.suite he4 hd4 na awayL awayF
      have run := (hsu a oe4 cls dd (X.pn ++ pins) hz4 ⟨_, hd4⟩).run [] _ _ H _ S4 (yes rfl a na)
      refine wpAny_mono run (fun f s6 z => ?_) (fun _ _ z => z.elim)
      cases f with
      | next => obtain ⟨s', H', I', q⟩ := z; exact ⟨s', H', I'.unsuite J.ok, q⟩
      | brk => obtain ⟨s', H', I', q⟩ := z; exact ⟨s', H', I'.unsuite J.ok, q⟩
      | cont => obtain ⟨s', H', I', q⟩ := z; exact ⟨s', H', I'.unsuite J.ok, q⟩
      | ret u => obtain ⟨v, s', H', I', rv, q⟩ := z; exact ⟨v, s', H', I'.unsuite J.ok, rv, q⟩
  | @named x n i c ts b1 su np q hs l hc hi hl hsu r ih =>
    obtain ⟨b, hb, yes, no⟩ := w
    refine wpAny_handleBy_cons (codeAny_handlers_test ?_) (fun z => nomatch z)
    refine asks hc ((PySem.W.exm_one (M := model X.prog X.w) J3.kIn LT hb).here ?_)
    cases b with
    | false => exact ih (no rfl)
    | true =>
      refine codeAny_handlers_suite_as (HandSPX.lands_againZ fl fun g4 fl4 up4 => ?_)
      have J4 := land g4 fl4 (up3.trans up4)
      obtain ⟨oe4, vs4, he4, hz4, hd4⟩ := fl4.there
      have S4 := J4.suite he4 hd4 na awayL awayF
      refine store_ok (X := X.suite a ((a, oe4) :: (X.pn ++ pins))) (v := .ref a) S4 hN hi (.inl hl) rfl (fun s5 S5 => ?_) (.inr hl)
      have run := (hsu a oe4 cls dd (X.pn ++ pins) hz4 ⟨_, hd4⟩).run [] s5 _ H _ S5 (yes rfl a na)
      refine wpAny_mono run (fun f s6 z => ?_) (fun _ _ z => z.elim)
      cases f with
      | next => obtain ⟨s', H', I', q⟩ := z; exact gone_ok (I'.unsuite J.ok) hN hi hl fun s7 J7 => ⟨_, _, J7, q⟩
      | brk => obtain ⟨s', H', I', q⟩ := z; exact gone_ok (I'.unsuite J.ok) hN hi hl fun s7 J7 => ⟨_, _, J7, q⟩
      | cont => obtain ⟨s', H', I', q⟩ := z; exact gone_ok (I'.unsuite J.ok) hN hi hl fun s7 J7 => ⟨_, _, J7, q⟩
      | ret u => obtain ⟨v, s', H', I', rv, q⟩ := z; exact gone_ok (I'.unsuite J.ok) hN hi hl fun s7 J7 => ⟨_, _, _, J7, rv, q⟩
theorem ps_clauses {body : List Stmt} {h0 : ExceptHandler} {hs : List ExceptHandler} {l : List Cl} {pos : Pos} {tb : WX → TS} (hst : X.stack = X.env :: X.outer) (hfr : X.env.frame = some X.env.locals) (hN : X.N.Nodup) (tk : Takes X W)
    (hb : ∀ (W' : WX) (pn : List (Addr × Obj)) (xe : Value → Shared → Prop), Takes (X.tr pn xe) W' → PassesOwn (model X.prog X.w) X.A X.env xe → PSs (X.tr pn xe) body (tb W')) (hk : ClsOk X (h0 :: hs) l) :
    PS X (.Try body (h0 :: hs) [] [] pos) (fun D0 s H => tb (wCl X.K W D0 l) D0 s H) := by
  refine ⟨fun pins s σ H D0 I h => wpAny_Try_except ?_⟩
  have ok := I.ok
  have wish : Takes (X.tr (X.pn ++ pins) (fun e s₁ => wpAny (model X.prog X.w) X.A (noteFrame e X.env) (fun _ s₂ => wpAny (model X.prog X.w) X.A (setFlight e none) (fun _ s₃ =>
      wpAny (model X.prog X.w) X.A (handleBy e X.env (h0 :: hs)) (SP X pins D0) X.xe s₃) X.xe s₂) X.xe s₁)) (wCl X.K W D0 l) := by
    rintro u s' ⟨a, B, sI, pins', σ', H', cls, d, rfl, J', nb, up, sky, na, os, ag, w⟩
    have sky' : Sky B (X.env :: X.outer) a (Zc cls d) X.env.locals s'.heap := hst ▸ sky
    refine Sky.land Zc.steady (by rw [ok.frames, hst]) hfr sky' fun h3 fl3 up3 => ?_
    exact ask_clauses hst hfr hN tk (J'.ofTry ok) nb up na os ag fl3 up3 hk w
  refine wpAny_mono ((hb _ _ _ wish PassesOwn.looking).run [] s σ H D0 (I.toTry _) h) (fun f s1 z => ?_) (fun e s1 z => z)
  cases f with
  | next => obtain ⟨s', H', J, q⟩ := z; exact wpAny_execs_nil ⟨s', H', J.ofTry ok, q⟩
  | brk => obtain ⟨s', H', J, q⟩ := z; exact ⟨s', H', J.ofTry ok, q⟩
  | cont => obtain ⟨s', H', J, q⟩ := z; exact ⟨s', H', J.ofTry ok, q⟩
  | ret u => obtain ⟨v, s', H', J, r, q⟩ := z; exact ⟨v, s', H', J.ofTry ok, r, q⟩
end
end Jm

set_option Elab.async false
set_option linter.all false
set_option maxRecDepth 100000
set_option maxHeartbeats 4000000
/-! Jm, part Z: try as a reading. -/
noncomputable section
namespace Jm
open PySem PySem.Spec PyProof.Rows L2
/-- no exception of an except suite within -/
inductive Clean : D → Prop
  | non : Clean .non
  | bl (b : Bool) : Clean (.bl b)
  | int (i : Int) : Clean (.int i)
  | str (x : Str) : Clean (.str x)
  | tup {xs : List D} : (∀ x ∈ xs, Clean x) → Clean (.tup xs)
  | loc (l : Nat) : Clean (.loc l)
  | fn (i : Nat) : Clean (.fn i)
  | ty (n : Tn) : Clean (.ty n)
  | rng (lo hi : Int) : Clean (.rng lo hi)
  | scr {xs : List D} : (∀ x ∈ xs, Clean x) → Clean (.scr xs)
  | sett {xs : List D} : (∀ x ∈ xs, Clean x) → Clean (.sett xs)
  | ins {c : Nat} {f : Str} {x : D} : Clean x → Clean (.ins c f x)
  | exv {c : Nat} {fs : List D} : (∀ x ∈ fs, Clean x) → Clean (.exv c fs)
/-- the same with a suite's exception -/
abbrev RC.withX (R : RC) (e : Option (Addr × Nat × Option Addr)) : RC := { R with ex := e }
section
variable {R : RC} {p : List Addr} {H : Hp} {e : Option (Addr × Nat × Option Addr)}
theorem TupAt.x {a : Addr} {xs : List V} (h : TupAt R p H a xs) : TupAt (R.withX e) p H a xs := h
theorem ScrAt.x {a : Addr} {xs : List V} (h : ScrAt R p H a xs) : ScrAt (R.withX e) p H a xs := h
mutual
theorem RV.clean (h0 : R.ex = none) : ∀ {d : D} {v : V}, RV R p H d v → Clean d
  | _, _, .non => .non
  | _, _, .bl b => .bl b
  | _, _, .int i => .int i
  | _, _, .str x => .str x
  | _, _, .ty n => .ty n
  | _, _, .tup s r => .tup (RVs.clean h0 r)
  | _, _, .loc e => .loc _
  | _, _, .fn i => .fn i
  | _, _, .rng n e => .rng _ _
  | _, _, .scr s r => .scr (RVs.clean h0 r)
  | _, _, .sett n e r h1 h2 h3 => .sett (RVs.clean h0 r)
  | _, _, .ins n e r => .ins (RV.clean h0 r)
  | _, _, .exv _ _ _ _ r => .exv fun x hx => by rw [List.mem_singleton.mp hx]; exact RV.clean h0 r
  | _, _, .exv0 _ _ => .exv fun x hx => nomatch hx
  | _, _, .exc e _ _ _ => by rw [h0] at e; cases e
  | _, _, .exc0 e => by rw [h0] at e; cases e
theorem RVs.clean (h0 : R.ex = none) : ∀ {ds : List D} {vs : List V}, RVs R p H ds vs → ∀ x ∈ ds, Clean x
  | _, _, .nil => fun x h => nomatch h
  | _, _, .cons r rs => fun x h => by
    rcases List.mem_cons.mp h with z | z
    · rw [z]; exact RV.clean h0 r
    · exact RVs.clean h0 rs x z
end
mutual
theorem RV.up (h0 : R.ex = none) : ∀ {d : D} {v : V}, RV R p H d v → RV (R.withX e) p H d v
  | _, _, .non => .non
  | _, _, .bl b => .bl b
  | _, _, .int i => .int i
  | _, _, .str x => .str x
  | _, _, .ty n => .ty n
  | _, _, .tup s r => .tup s.x (RVs.up h0 r)
  | _, _, .loc e => .loc e
  | _, _, .fn i => .fn (R := R.withX e) i
  | _, _, .rng n e => .rng n e
  | _, _, .scr s r => .scr s.x (RVs.up h0 r)
  | _, _, .sett n e r h1 h2 h3 => .sett n e (RVs.up h0 r) h1 h2 h3
  | _, _, .ins n h r => .ins (R := R.withX e) n h (RV.up h0 r)
  | _, _, .exv n m h k r => .exv (R := R.withX e) n m h k (RV.up h0 r)
  | _, _, .exv0 n h => .exv0 (R := R.withX e) n h
  | _, _, .exc e _ _ _ => by rw [h0] at e; cases e
  | _, _, .exc0 e => by rw [h0] at e; cases e
theorem RVs.up (h0 : R.ex = none) : ∀ {ds : List D} {vs : List V}, RVs R p H ds vs → RVs (R.withX e) p H ds vs
  | _, _, .nil => .nil
  | _, _, .cons r rs => .cons (RV.up h0 r) (RVs.up h0 rs)
end
mutual
theorem RV.down : ∀ {d : D} {v : V}, RV (R.withX e) p H d v → Clean d → RV (R.withX none) p H d v
  | _, _, .non, _ => .non
  | _, _, .bl b, _ => .bl b
  | _, _, .int i, _ => .int i
  | _, _, .str x, _ => .str x
  | _, _, .ty n, _ => .ty n
  | _, _, .tup s r, c => .tup s (RVs.down r (by cases c with | tup h => exact h))
  | _, _, .loc e, _ => .loc e
  | _, _, .fn i, _ => .fn (R := R.withX none) i
  | _, _, .rng n e, _ => .rng n e
  | _, _, .scr s r, c => .scr s (RVs.down r (by cases c with | scr h => exact h))
  | _, _, .sett n e r h1 h2 h3, c => .sett n e (RVs.down r (by cases c with | sett h => exact h)) h1 h2 h3
  | _, _, .ins n h r, c => .ins (R := R.withX none) n h (RV.down r (by cases c with | ins h => exact h))
  | _, _, .exv n m h k r, c => .exv (R := R.withX none) n m h k (RV.down r (by cases c with | exv h => exact h _ List.mem_cons_self))
  | _, _, .exv0 n h, _ => .exv0 (R := R.withX none) n h
  | _, _, .exc e _ _ _, c => nomatch c
  | _, _, .exc0 e, c => nomatch c
theorem RVs.down : ∀ {ds : List D} {vs : List V}, RVs (R.withX e) p H ds vs → (∀ x ∈ ds, Clean x) → RVs (R.withX none) p H ds vs
  | _, _, .nil, _ => .nil
  | _, _, .cons r rs, c => .cons (RV.down r (c _ List.mem_cons_self)) (RVs.down rs fun x h => c x (List.mem_cons_of_mem _ h))
end
mutual
theorem keyN_clean : ∀ (d : D) (k : NestedKey), keyN d = some k → Clean d
  | .non, _, _ => .non
  | .int i, _, _ => .int i
  | .str x, _, _ => .str x
  | .tup ds, _, e => by
    have e' : (keyNs ds).map NestedKey.tup = some _ := e
    obtain ⟨ks, e1, _⟩ := Option.map_eq_some_iff.mp e'
    exact .tup (keyNs_clean ds ks e1)
  | .bl _, _, e => nomatch e
  | .loc _, _, e => nomatch e
  | .fn _, _, e => nomatch e
  | .ty _, _, e => nomatch e
  | .rng _ _, _, e => nomatch e
  | .scr _, _, e => nomatch e
  | .sett _, _, e => nomatch e
  | .ins _ _ _, _, e => nomatch e
  | .exv _ _, _, e => nomatch e
  | .exc _ _, _, e => nomatch e
theorem keyNs_clean : ∀ (ds : List D) (ks : List NestedKey), keyNs ds = some ks → ∀ x ∈ ds, Clean x
  | [], _, _, x, h => nomatch h
  | d :: ds, ks, e, x, h => by
    have e' : (match keyN d, keyNs ds with | some k, some ks => some (k :: ks) | _, _ => none) = some ks := e
    split at e'
    · rename_i k ks' e1 e2
      rcases List.mem_cons.mp h with z | z
      · rw [z]; exact keyN_clean d k e1
      · exact keyNs_clean ds ks' e2 x z
    · cases e'
end
/-- what the store holds is clean -/
def CleanS (S : Sto) : Prop := ∀ (l : Nat) (o : O), S[l]? = some o → match o with
  | .lst ds => ∀ x ∈ ds, Clean x
  | .dct kvs => ∀ x ∈ kvs, Clean x.2
  | .dcN kvs => ∀ x ∈ kvs, Clean x.2
  | .dctZ kvs => ∀ x ∈ kvs, Clean x.2
  | .dcNZ kvs => ∀ x ∈ kvs, Clean x.2
theorem paired_mem {A B : Type} {F : A → B → Prop} : ∀ {l : List A} {k : List B}, Paired F l k → ∀ x ∈ l, ∃ y, F x y
  | _, _, .nil, _, h => nomatch h
  | _, _, .cons r t, x, h => by
    rcases List.mem_cons.mp h with z | z
    · rw [z]; exact ⟨_, r⟩
    · exact paired_mem t x z
theorem paired_imp2 {A B : Type} {F G : A → B → Prop} : ∀ {l : List A} {k : List B}, Paired F l k → (∀ a ∈ l, ∀ b, F a b → G a b) → Paired G l k
  | _, _, .nil, _ => .nil
  | _, _, .cons r t, f => .cons (f _ List.mem_cons_self _ r) (paired_imp2 t fun a h => f a (List.mem_cons_of_mem _ h))
theorem RS.cleanS {S : Sto} (h0 : R.ex = none) (rs : RS R p S H) : CleanS S := by
  intro l o e
  obtain ⟨a, _, ro⟩ := rs.addr e
  cases o with
  | lst ds => obtain ⟨vs, _, h⟩ := ro; exact RVs.clean h0 h
  | dct kvs =>
    obtain ⟨us, _, h⟩ := ro
    intro x hx
    obtain ⟨y, _, r⟩ := paired_mem h x hx
    exact r.clean h0
  | dctZ kvs =>
    obtain ⟨o, us, _, h⟩ := ro
    intro x hx
    obtain ⟨y, _, r⟩ := paired_mem h x hx
    exact r.clean h0
  | dcN kvs =>
    obtain ⟨us, _, _, _, h⟩ := ro
    intro x hx
    obtain ⟨y, _, _, _, r, _⟩ := paired_mem h x hx
    exact r.clean h0
  | dcNZ kvs =>
    obtain ⟨o', us, _, _, _, h⟩ := ro
    intro x hx
    obtain ⟨y, _, _, _, r, _⟩ := paired_mem h x hx
    exact r.clean h0
theorem RS.up {S : Sto} (h0 : R.ex = none) (rs : RS R p S H) : RS (R.withX e) p S H :=
  ⟨rs.len, rs.nd, rs.gt, fun l o a e1 e2 => by
    have ro := rs.at_ l o a e1 e2
    cases o with
    | lst ds => obtain ⟨vs, h1, h⟩ := ro; exact ⟨vs, h1, RVs.up h0 h⟩
    | dct kvs => obtain ⟨us, h1, h⟩ := ro; exact ⟨us, h1, paired_imp h fun a b z => ⟨z.1, RV.up h0 z.2⟩⟩
    | dctZ kvs => obtain ⟨o, us, h1, h⟩ := ro; exact ⟨o, us, h1, paired_imp h fun a b z => ⟨z.1, RV.up h0 z.2⟩⟩
    | dcN kvs => obtain ⟨xs, h1, h2, h3, h4⟩ := ro; exact ⟨xs, h1, h2, h3, paired_imp h4 fun x y ⟨z1, ⟨ds, k1, k2⟩, v, z3, z4⟩ => ⟨z1, ⟨ds, RV.up h0 k1, k2⟩, v, RV.up h0 z3, z4⟩⟩
    | dcNZ kvs => obtain ⟨o', xs, h1, h2, h3, h4⟩ := ro; exact ⟨o', xs, h1, h2, h3, paired_imp h4 fun x y ⟨z1, ⟨ds, k1, k2⟩, v, z3, z4⟩ => ⟨z1, ⟨ds, RV.up h0 k1, k2⟩, v, RV.up h0 z3, z4⟩⟩⟩
theorem RS.down {S : Sto} (c : CleanS S) (rs : RS (R.withX e) p S H) : RS (R.withX none) p S H :=
  ⟨rs.len, rs.nd, rs.gt, fun l o a e1 e2 => by
    have ro := rs.at_ l o a e1 e2
    have cl := c l o e1
    cases o with
    | lst ds => obtain ⟨vs, h1, h⟩ := ro; exact ⟨vs, h1, RVs.down h cl⟩
    | dct kvs => obtain ⟨us, h1, h⟩ := ro; exact ⟨us, h1, paired_imp2 h fun a ha b z => ⟨z.1, RV.down z.2 (cl a ha)⟩⟩
    | dctZ kvs => obtain ⟨o, us, h1, h⟩ := ro; exact ⟨o, us, h1, paired_imp2 h fun a ha b z => ⟨z.1, RV.down z.2 (cl a ha)⟩⟩
    | dcN kvs => obtain ⟨xs, h1, h2, h3, h4⟩ := ro; exact ⟨xs, h1, h2, h3, paired_imp2 h4 fun x hx y ⟨z1, ⟨ds, k1, k2⟩, v, z3, z4⟩ => ⟨z1, ⟨ds, RV.down k1 (keyN_clean _ _ k2.1), k2⟩, v, RV.down z3 (cl x hx), z4⟩⟩
    | dcNZ kvs => obtain ⟨o', xs, h1, h2, h3, h4⟩ := ro; exact ⟨o', xs, h1, h2, h3, paired_imp2 h4 fun x hx y ⟨z1, ⟨ds, k1, k2⟩, v, z3, z4⟩ => ⟨z1, ⟨ds, RV.down k1 (keyN_clean _ _ k2.1), k2⟩, v, RV.down z3 (cl x hx), z4⟩⟩⟩
end
section
variable {R : RC} {p : List Addr} {H : Hp} {e : Option (Addr × Nat × Option Addr)} {n : En} {s : L2.St}
theorem RE.up (h0 : R.ex = none) (r : RE R p n s H) : RE (R.withX e) p n s H := ⟨r.1, fun i d h => by
  obtain ⟨v, h1, h2⟩ := r.2 i d h
  exact ⟨v, h1, RV.up h0 h2⟩⟩
theorem RE.down (r : RE (R.withX e) p n s H) (c : ∀ (i : Nat) (d : D), n[i]? = some (some d) → Clean d) : RE (R.withX none) p n s H := ⟨r.1, fun i d h => by
  obtain ⟨v, h1, h2⟩ := r.2 i d h
  exact ⟨v, h1, RV.down h2 (c i d h)⟩⟩
theorem withX_none (h0 : R.ex = none) : R.withX none = R := by
  obtain ⟨a, b, c, d⟩ := R
  cases h0
  rfl
end
/-- a clause: which classes it takes, the name's slot, the suite -/
structure HC where
  cm : Nat → Option Bool
  sl : Option Nat
  su : E Out
def onD (n : En) (d : D) : Option Nat → En
  | none => n
  | some i => n.set i (some d)
def offD (n : En) : Option Nat → En
  | none => n
  | some i => n.set i none
def CleanN (n : En) : Prop := ∀ (i : Nat) (d : D), n[i]? = some (some d) → Clean d
open Classical in
def finCl (o : Option Nat) (S : Sto) (r : Res Out) : Res Out := match r with
  | .ok (.rt d) S' => if S' = S ∧ Clean d then .ok (.rt d) S' else .bad
  | .ok (.nx n) S' => if S' = S ∧ CleanN (offD n o) then .ok (.nx (offD n o)) S' else .bad
  | _ => .bad
def runCl : List HC → Nat → List D → E Out
  | [], c, fs => fun n S => .ok (.er c fs n) S
  | h :: r, c, fs => fun n S => match h.cm c with
    | some true => finCl h.sl S (h.su (onD n (.exc c fs) h.sl) S)
    | some false => runCl r c fs n S
    | none => .bad
def sTry (fb : E Out) (l : List HC) : E Out := fun n S => rbind (fb n S) fun o S' => match o with
  | .er c fs n' => runCl l c fs n' S'
  | o => .ok o S'
abbrev Gl0.withX (fa : Gl0) (e : Option (Addr × Nat × Option Addr)) : Gl0 := { fa with ex := e }
inductive HOk (X : Cx) (fa : Gl0) : List ExceptHandler → List HC → Prop
  | nil : HOk X fa [] []
  | cons {x : Str} {cV : Value} {nm : Option Str} {h : HC} {b : Stmt} {su : List Stmt} {np q : Pos} {hs : List ExceptHandler} {l : List HC} : Names X x cV → (∀ c k, h.cm c = some k → PySem.W.exmOne X.K (.ref (fa.fa c)) cV = some k) →
      (match nm, h.sl with
        | none, none => True
        | some n, some i => X.N[i]? = some n ∧ X.env.kindOf n = some .local
        | _, _ => False) →
      (∀ (a : Addr) (oe : Obj) (c : Nat) (dd : Option Addr) (pn : List (Addr × Obj)), h.cm c = some true → Zc (.ref (fa.fa c)) dd oe → (∃ vs, oe.data = .fields vs) → PSs (X.suite a ((a, oe) :: pn)) (b :: su) (xS (rc X (fa.withX (some (a, c, dd)))) W0 h.su)) →
      HOk X fa hs l → HOk X fa (.ExceptHandler (some (.Name x np)) nm (b :: su) q :: hs) (h :: l)
section
variable {X : Cx} {fa : Gl0} {W : WX} {D0 : Ends}
/-- the clause's reading, as the rule wants it -/
def tCl (X : Cx) (fa : Gl0) (h : HC) : Addr → Value → Option Addr → TS := fun a cls dd D1 s H => ∃ c, cls = .ref (fa.fa c) ∧ h.cm c = some true ∧ xS (rc X (fa.withX (some (a, c, dd)))) W0 h.su D1 s H
theorem clauses_ok : ∀ {hs : List ExceptHandler} {l : List HC}, HOk X fa hs l → ∃ l' : List Cl, ClsOk X hs l' ∧ ∀ (W : WX) (D0 : Ends) (R : RC) (_ : R = rc X fa) (_ : fa.ex = none) (c : Nat) (fs : List D) (n : En) (S : Sto) (p : List Addr) (H : Hp), RS R p S H → Aft R p H (runCl l c fs n S) (fun o p' S' H' => o.post R W D0 p' H') NoW →
    ∀ s cls dd, RE R p n s H → EX R p H c fs cls dd → wCl X.K W D0 l' cls dd s H
  | _, _, .nil => ⟨[], .nil, fun W D0 R hR h0 c fs n S p H rs h s cls dd re x => aft_ok rs h s cls dd re x⟩
  | _, _, .cons (cV := cV) (nm := nm) (h := hc) hn hm hsl hsu hr => by
    obtain ⟨l', k1, k2⟩ := clauses_ok hr
    have suok : SuOk X _ (tCl X fa hc) := fun a oe cls dd pn hz hd => ⟨fun pins s σ H D1 I ⟨c, e, ht, hw⟩ => by
      subst e
      exact (hsu a oe c dd pn ht hz hd).run pins s σ H D1 I hw⟩
    refine ⟨(cV, hc.sl, tCl X fa hc) :: l', ?_, ?_⟩
    · cases nm with
      | none =>
        cases e : hc.sl with
        | none => exact .bare hn suok k1
        | some i => rw [e] at hsl; exact hsl.elim
      | some m =>
        cases e : hc.sl with
        | none => rw [e] at hsl; exact hsl.elim
        | some i => rw [e] at hsl; exact .named hn hsl.1 hsl.2 suok k1
    · intro W D0 R hR h0 c fs n S p H rs h s cls dd re x
      have hR0 : R.ex = none := by rw [hR]; exact h0
      have h : Aft R p H (match hc.cm c with
        | some true => finCl hc.sl S (hc.su (onD n (.exc c fs) hc.sl) S)
        | some false => runCl _ c fs n S
        | none => .bad) _ _ := h
      cases ec : hc.cm c with
      | none => rw [ec] at h; exact h.elim
      | some k =>
        refine ⟨k, ?_, fun hk a ha => ?_, fun hk => ?_⟩
        · have := hm c k ec
          rw [x.1, hR]; exact this
        · subst hk
          rw [ec] at h
          refine ⟨c, by rw [x.1, hR], ec, p, onD n (.exc c fs) hc.sl, S, ?_, ?_, ?_⟩
          · have := rs.up (e := some (a, c, dd)) hR0
            rw [hR] at this; exact this
          · have rvx : RV (R.withX (some (a, c, dd))) p H (.exc c fs) (.ref a) := by
              rcases x.2 with ⟨rfl, rfl⟩ | ⟨d, y, v, rfl, rfl, h1, h2, h3⟩
              · exact .exc0 rfl
              · exact .exc rfl h1 h2 (RV.up hR0 h3)
            have := RE.up (e := some (a, c, dd)) hR0 re
            subst hR
            cases hc.sl with
            | none => exact this
            | some i => exact this.set rvx
          · have hw := withX_none hR0
            have cs := rs.cleanS hR0
            have low : ∀ {p2 : List Addr} {H2 : Hp}, RS (R.withX (some (a, c, dd))) p2 S H2 → RS R p2 S H2 := fun {p2 H2} r => by
              have := RS.down cs r
              rw [hw] at this; exact this
            subst hR
            cases er : hc.su (onD n (.exc c fs) hc.sl) S with
            | bad => rw [er] at h; exact h.elim
            | exc c2 fs2 S2 => rw [er] at h; exact h.elim
            | ok o S2 =>
              rw [er] at h
              cases o with
              | rt d =>
                unfold finCl at h
                by_cases hq : S2 = S ∧ Clean d
                · obtain ⟨rfl, hcl⟩ := hq
                  dsimp only at h
                  rw [if_pos ⟨rfl, hcl⟩] at h
                  intro p2 H2 hp2 t2 rs2 v rv
                  have rv' := RV.down (R := rc X fa) (e := some (a, c, dd)) rv hcl
                  rw [hw] at rv'
                  have q := h p2 H2 hp2 t2 (low rs2) v rv'
                  cases hc.sl <;> exact q
                · dsimp only at h
                  rw [if_neg hq] at h
                  exact h.elim
              | nx n2 =>
                unfold finCl at h
                by_cases hq : S2 = S ∧ CleanN (offD n2 hc.sl)
                · obtain ⟨rfl, hcl⟩ := hq
                  dsimp only at h
                  rw [if_pos ⟨rfl, hcl⟩] at h
                  intro p2 H2 hp2 t2 rs2 s2 re2
                  have q := h p2 H2 hp2 t2 (low rs2)
                  cases esl : hc.sl with
                  | none =>
                    rw [esl] at q hcl
                    have r3 := RE.down (R := rc X fa) (e := some (a, c, dd)) re2 hcl
                    rw [hw] at r3
                    exact q s2 r3
                  | some i =>
                    rw [esl] at q hcl
                    have r3 := RE.down (R := rc X fa) (e := some (a, c, dd)) (re2.wipe (i := i)) hcl
                    rw [hw] at r3
                    exact q _ r3
                · dsimp only at h
                  rw [if_neg hq] at h
                  exact h.elim
              | bk n2 => exact h.elim
              | ct n2 => exact h.elim
              | er c2 fs2 n2 => exact h.elim
        · subst hk
          rw [ec] at h
          exact k2 W D0 R hR h0 c fs n S p H rs h s cls dd re x
theorem f_try {body : List Stmt} {fb : E Out} {h0 : ExceptHandler} {hs : List ExceptHandler} {l : List HC} {pos : Pos} (hst : X.stack = X.env :: X.outer) (hfr : X.env.frame = some X.env.locals) (hN : X.N.Nodup) (tk : Takes X W) (he : fa.ex = none)
    (hb : ∀ (W' : WX) (pn : List (Addr × Obj)) (xe : Value → Shared → Prop), Takes (X.tr pn xe) W' → PassesOwn (model X.prog X.w) X.A X.env xe → PSs (X.tr pn xe) body (xS (rc X fa) W' fb)) (hk : HOk X fa (h0 :: hs) l) :
    PS X (.Try body (h0 :: hs) [] [] pos) (xS (rc X fa) W (sTry fb l)) := by
  obtain ⟨l', k1, k2⟩ := clauses_ok hk
  refine impS (ps_clauses hst hfr hN tk hb k1) fun D0 s H ⟨p, n, S, rs, re, h⟩ => ⟨p, n, S, rs, re, (Aft.bind h).imp (fun o p1 S1 H1 hp t rs1 h1 => ?_) fun _ _ _ w => w⟩
  cases o with
  | nx n' => exact aft_ok rs1 h1
  | rt d => exact aft_ok rs1 h1
  | bk n' => exact aft_ok rs1 h1
  | ct n' => exact aft_ok rs1 h1
  | er c fs n' => exact fun s' cls dd re' x => k2 W D0 _ rfl he c fs n' S1 p1 H1 rs1 h1 s' cls dd re' x
/-- e.f of a suite's exception -/
def eFld (f : Str) (fe : E D) : E D := eBnd fe fun d _ S => match d with
  | .exc c [x] => if fldName c = f then .ok x S else .bad
  | _ => .bad
theorem f_xf {a : Addr} {oe : Obj} {c : Nat} {dd : Option Addr} {pn : List (Addr × Obj)} {e : Expr} {fe : E D} {pos : Pos} {f : Str} (T : XfC X.K (fa.fa c)) (hno : PySem.W.findIn X.K (.ref (fa.fa c)) f = some none)
    (hz : Zc (.ref (fa.fa c)) dd oe) (hf : ∃ vs, oe.data = .fields vs) (he : PE (X.suite a ((a, oe) :: pn)) e (xE (rc X (fa.withX (some (a, c, dd)))) W fe)) (hb : attributeBase e f X.env (eval e X.env) = eval e X.env) :
    PE (X.suite a ((a, oe) :: pn)) (.Attribute e f pos) (xE (rc X (fa.withX (some (a, c, dd)))) W (eFld f fe)) :=
  impE (pe_xf T hno hz hf he hb) fun s H Q ⟨p, n, S, rs, re, h⟩ => xE_of rs re h fun d p1 S1 H1 v rs1 re1 hp t rv h1 => by
    cases rv with
    | @exc c2 a2 d2 x v2 he2 hn hd hr =>
      have he3 : (some (a, c, dd) : Option (Addr × Nat × Option Addr)) = some (a2, c2, some d2) := he2
      cases he3
      have h1 : Aft (rc X (fa.withX (some (a, c, some d2)))) p1 H1 (if fldName c = f then .ok x S1 else .bad) _ _ := h1
      by_cases hc : fldName c = f
      · rw [if_pos hc] at h1
        refine ⟨rfl, rfl, d2, [(fldName c, v2)], v2, rfl, hd, ?_, aft_ok rs1 h1 v2 hr⟩
        rw [hc]; simp [List.lookup]
      · rw [if_neg hc] at h1
        exact h1.elim
    | _ => exact h1.elim
end
end Jm

set_option Elab.async false
set_option linter.all false
set_option maxRecDepth 100000
set_option maxHeartbeats 4000000
/-! Jm, part Od: the order of nested data, sorted. -/
noncomputable section
namespace Jm
open PySem PySem.Spec PyProof.Rows L2 PySem.W PySem.SeqAt
/-! ### shapes: data of one shape can be ordered -/
inductive Sh where
  | i | s | a (x : Sh) | p (x y : Sh) | q (x y z : Sh) | pq (x y z : Sh)
def fits : Sh → PyData → Bool
  | .i, d => (match d with
    | .int _ => true
    | _ => false)
  | .s, d => (match d with
    | .str _ => true
    | _ => false)
  | .a h, d => (match d with
    | .tuple xs => xs.all (fits h)
    | _ => false)
  | .p h k, d => (match d with
    | .tuple [x, y] => fits h x && fits k y
    | _ => false)
  | .q h k l, d => (match d with
    | .tuple [x, y, z] => fits h x && (fits k y && fits l z)
    | _ => false)
  | .pq h k l, d => (match d with
    | .tuple [x, y] => fits h x && fits k y
    | .tuple [x, y, z] => fits h x && (fits k y && fits l z)
    | _ => false)
theorem fits_i {d : PyData} (h : fits .i d = true) : ∃ a, d = .int a := by cases d <;> first | exact ⟨_, rfl⟩ | cases h
theorem fits_s {d : PyData} (h : fits .s d = true) : ∃ a, d = .str a := by cases d <;> first | exact ⟨_, rfl⟩ | cases h
theorem alike_all {h : Sh} (F : ∀ x y, fits h x = true → fits h y = true → alike x y = true) : ∀ xs ys : List PyData, xs.all (fits h) = true → ys.all (fits h) = true → alikeAll xs ys = true
  | [], ys, _, _ => by unfold alikeAll; rfl
  | _ :: _, [], _, _ => by unfold alikeAll; rfl
  | x :: xs, y :: ys, h1, h2 => by
    rw [List.all_cons, Bool.and_eq_true] at h1 h2
    unfold alikeAll
    rw [F x y h1.1 h2.1, alike_all F xs ys h1.2 h2.2]; rfl
theorem fits_alike : ∀ (h : Sh) (x y : PyData), fits h x = true → fits h y = true → alike x y = true
  | .i, x, y, h1, h2 => by
    obtain ⟨a, rfl⟩ := fits_i h1
    obtain ⟨b, rfl⟩ := fits_i h2
    rfl
  | .s, x, y, h1, h2 => by
    obtain ⟨a, rfl⟩ := fits_s h1
    obtain ⟨b, rfl⟩ := fits_s h2
    rfl
  | .a h, x, y, h1, h2 => by
    unfold fits at h1 h2
    split at h1
    · split at h2
      · rename_i xs ys
        show alikeAll _ _ = true
        exact alike_all (fits_alike h) _ _ h1 h2
      · cases h2
    · cases h1
  | .p h k, x, y, h1, h2 => by
    unfold fits at h1 h2
    split at h1
    · split at h2
      · rename_i a b _ c d
        rw [Bool.and_eq_true] at h1 h2
        show (alike a c && (alike b d && true)) = true
        rw [fits_alike h a c h1.1 h2.1, fits_alike k b d h1.2 h2.2]; rfl
      · cases h2
    · cases h1
  | .q h k l, x, y, h1, h2 => by
    unfold fits at h1 h2
    split at h1
    · split at h2
      · rename_i a b c _ d e f
        rw [Bool.and_eq_true, Bool.and_eq_true] at h1 h2
        show (alike a d && (alike b e && (alike c f && true))) = true
        rw [fits_alike h a d h1.1 h2.1, fits_alike k b e h1.2.1 h2.2.1, fits_alike l c f h1.2.2 h2.2.2]; rfl
      · cases h2
    · cases h1
  | .pq h k l, x, y, h1, h2 => by
    unfold fits at h1 h2
    split at h1
    · split at h2
      · rename_i a b _ c d
        rw [Bool.and_eq_true] at h1 h2
        show (alike a c && (alike b d && true)) = true
        rw [fits_alike h a c h1.1 h2.1, fits_alike k b d h1.2 h2.2]; rfl
      · rename_i a b _ c d e
        rw [Bool.and_eq_true, Bool.and_eq_true] at h2
        rw [Bool.and_eq_true] at h1
        show (alike a c && (alike b d && true)) = true
        rw [fits_alike h a c h1.1 h2.1, fits_alike k b d h1.2 h2.2.1]; rfl
      · cases h2
    · split at h2
      · rename_i a b c _ d e
        rw [Bool.and_eq_true, Bool.and_eq_true] at h1
        rw [Bool.and_eq_true] at h2
        show (alike a d && (alike b e && true)) = true
        rw [fits_alike h a d h1.1 h2.1, fits_alike k b e h1.2.1 h2.2]; rfl
      · rename_i a b c _ d e f
        rw [Bool.and_eq_true, Bool.and_eq_true] at h1 h2
        show (alike a d && (alike b e && (alike c f && true))) = true
        rw [fits_alike h a d h1.1 h2.1, fits_alike k b e h1.2.1 h2.2.1, fits_alike l c f h1.2.2 h2.2.2]; rfl
      · cases h2
    · cases h1
def shs : List Sh := [.i, .s, .p .i .i, .p .s (.a .i), .p .i (.a (.p .i .i)), .p .s .i, .p .i .s, .q .i .i .i, .q .s .i (.a .i), .p (.a (.p .i .i)) (.a (.p .i .i)), .pq .s .i (.a .i)]
def topOk : Sh → Bool
  | .a _ => false
  | _ => true
theorem top_ok {h : Sh} (t : topOk h = true) {ys : List PyData} (f : ys.all (fits h) = true) : Sortable ys := by
  have m : ∀ d ∈ ys, fits h d = true := List.all_eq_true.mp f
  cases h with
  | i =>
    refine .inr fun d hd => ?_
    obtain ⟨a, rfl⟩ := fits_i (m d hd)
    exact ⟨(nomatch ·), fun xs => (nomatch ·)⟩
  | s =>
    refine .inr fun d hd => ?_
    obtain ⟨a, rfl⟩ := fits_s (m d hd)
    exact ⟨(nomatch ·), fun xs => (nomatch ·)⟩
  | a h => cases t
  | p h k =>
    refine .inl fun d hd => ?_
    have := m d hd
    unfold fits at this
    split at this
    · exact ⟨_, _, rfl⟩
    · cases this
  | q h k l =>
    refine .inl fun d hd => ?_
    have := m d hd
    unfold fits at this
    split at this
    · exact ⟨_, _, rfl⟩
    · cases this
  | pq h k l =>
    refine .inl fun d hd => ?_
    have := m d hd
    unfold fits at this
    split at this
    · exact ⟨_, _, rfl⟩
    · exact ⟨_, _, rfl⟩
    · cases this
def ordOk (ys : List PyData) : Bool := shs.any fun h => ys.all (fits h)
theorem ord_ok {ys : List PyData} (h : ordOk ys = true) : AllAlike ys ∧ Sortable ys := by
  obtain ⟨h, hm, hf⟩ := List.any_eq_true.mp h
  have t : topOk h = true := by
    have : shs.all topOk = true := rfl
    exact List.all_eq_true.mp this h hm
  exact ⟨fun d hd e he => fits_alike h d e (List.all_eq_true.mp hf d hd) (List.all_eq_true.mp hf e he), top_ok t hf⟩
/-! ### sorted -/
def dLe (p q : D × PyData) : Bool := !dataLt q.2 p.2
theorem dLe_eq : dLe = dataLe false (fun b : D × PyData => b.2) := rfl
theorem dLe_sort (l : List (D × PyData)) : l.mergeSort dLe = isort dLe l := by
  have T := sortLe_total (listOrd itemOrd) false fun b : D × PyData => keyToks b.2
  exact merge_isort T.trans (fun a b => by have := T.total a b; rwa [← Bool.or_eq_true] at this) l
def sortedTD : Prim := fun ds S => match ds with
  | [.loc l] => match lstAt S l with
    | some xs => match allSome (xs.map (pyV S 30)) with
      | some ys => if ordOk ys = true then mkLst ((isort dLe (xs.zip ys)).map (·.1)) S else none
      | none => none
    | none => none
  | _ => none
section
variable {X : Cx} {fa : Gl0}
def SR (R : RC) (p : List Addr) (H : Hp) (h : Heap) (u : Value) (b : D × PyData) : Prop := ∃ v, RV R p H b.1 v ∧ RelV v u ∧ ∃ as, Reads h u b.2 as
theorem each_sr {R : RC} {p : List Addr} {S : Sto} {H : Hp} {h : Heap} (rs : RS R p S H) (rd : ∀ (d : PyData) (v : V) (u : Value), Dp R.K H v d → RelV v u → ∃ as, Reads h u d as) : ∀ {ds : List D} {vs : List V} {us : List Value} {ys : List PyData}, RVs R p H ds vs → Vals vs us → allSome (ds.map (pyV S 30)) = some ys →
    EachIs (SR R p H h) us (ds.zip ys) ∧ us.length = ys.length ∧ EachIs (fun u d => ∃ as, Reads h u d as) us ys ∧ ∀ d ∈ ys, d.depth ≤ 30
  | _, _, _, ys, .nil, .nil, e => by cases e; exact ⟨.nil, rfl, .nil, fun d hd => absurd hd (by simp)⟩
  | d :: ds, _, _, ys, .cons r rr, .cons g gg, e => by
    obtain ⟨a, k, e1, e2, rfl⟩ := allSome_cons e
    obtain ⟨i1, i2, i3, i4⟩ := each_sr rs rd rr gg e2
    have o := pyV_ok rs 30 _ _ _ r e1
    have q := rd _ _ _ o.dp g
    exact ⟨.cons ⟨_, r, g, q⟩ i1, congrArg (· + 1) i2, .cons q i3, fun x hx => by
      rcases List.mem_cons.mp hx with rfl | hx
      · exact o.dep
      · exact i4 x hx⟩
theorem each_zip {A B C : Type} {P : A → B → Prop} : ∀ {us : List A} {cs : List C} {ys : List B}, cs.length = ys.length → EachIs P us ys → EachIs (fun u (b : C × B) => P u b.2) us (cs.zip ys)
  | _, [], _, _, .nil => .nil
  | _, _ :: _, _, h, .cons x t => .cons x (each_zip (Nat.succ.inj h) t)
theorem sr_back {R : RC} {p : List Addr} {H : Hp} {h : Heap} : ∀ {us : List Value} {bs : List (D × PyData)}, EachIs (SR R p H h) us bs → ∃ vs, Vals vs us ∧ RVs R p H (bs.map (·.1)) vs
  | _, _, .nil => ⟨[], .nil, .nil⟩
  | _, _, .cons ⟨v, r, g, _⟩ t => by
    obtain ⟨vs, h1, h2⟩ := sr_back t
    exact ⟨v :: vs, .cons g h1, .cons r h2⟩
theorem call_sortedT (hu : X.A.units + 65 < cLine) : CallR X (.builtin "sorted") (xN (rc X fa) sortedTD) := by
  intro pins s σ H xs us Q I rr ⟨p, S, ds, d, S', rs, rv, e, q⟩
  unfold sortedTD at e
  split at e
  · split at e
    · rename_i dl e1
      split at e
      · rename_i ys e2
        split at e
        · rename_i ho
          cases rv with
          | cons r1 r2 =>
            cases r2
            cases r1 with
            | loc h =>
              obtain ⟨vs, g1, g2⟩ := rs.list h e1
              obtain ⟨its, rvs, hl, hz⟩ := I.list (.of g1)
              rw [Vals.ref1 rr]
              obtain ⟨o1, o2⟩ := ord_ok ho
              obtain ⟨i1, i2, i3, i4⟩ := each_sr (h := s.heap) rs (fun d v u => Dp.reads I d v u) g2 rvs e2
              have kp : ∀ b o, s.heap.get? b = some o → (sortingHeap (copyHeap s.heap its) (s.heap.objs.size + 1) its).get? b = some o := fun b o => sorting_copy_old
              have i3' : EachIs (fun u d => ∃ as, Reads (sortingHeap (copyHeap s.heap its) (s.heap.objs.size + 1) its) u d as) its ys := i3.mono fun _ _ ⟨as, r⟩ => ⟨as, Reads.keeps kp r⟩
              have hlen : its.length ≤ sizeLine := by rw [← rvs.length]; exact hz
              refine sorted_vals (κ := dataKind (sortingHeap (copyHeap s.heap its) (s.heap.objs.size + 1) its) ys) hl.isList (SortsAt.data i3' o1 o2 fun d hd => ?_) hlen ?_
              · have := i4 d hd
                show X.A.units + 1 + 1 + d.depth < cLine
                omega
              · have kk : EachIs (fun u (b : D × PyData) => (dataKind (sortingHeap (copyHeap s.heap its) (s.heap.objs.size + 1) its) ys).keyOf u = some (keyToks b.2)) its (dl.zip ys) := by
                  have l1 : dl.length = ys.length := by rw [← i2, ← rvs.length, g2.length]
                  exact each_zip l1 (each_keys o1 i3')
                have z := sortVals_each (κ := dataKind (sortingHeap (copyHeap s.heap its) (s.heap.objs.size + 1) its) ys) (rev := false) (fun b : D × PyData => keyToks b.2) i1 kk
                have z2 : EachIs (SR (rc X fa) p H s.heap) (sortVals (dataKind (sortingHeap (copyHeap s.heap its) (s.heap.objs.size + 1) its) ys) false its its) (isort dLe (dl.zip ys)) := by
                  rw [← dLe_sort]; exact z
                obtain ⟨ws, w1, w2⟩ := sr_back z2
                obtain ⟨ep, he'⟩ := sortedAll_at s.heap its (sortVals (dataKind (sortingHeap (copyHeap s.heap its) (s.heap.objs.size + 1) its) ys) false its its).toArray
                obtain ⟨n1, n2⟩ := new_list rs w2 e q
                exact ⟨.ref _, upd H (s.heap.objs.size + 1) (.lst ws), I.laid (t' := s.toks) (fun _ _ => sortedAll_old) (Nat.le_succ _) ⟨n1, _, ep, w1, he'⟩, rfl, n2 _ (I.hok.fresh (Nat.le_succ _))⟩
        · cases e
      · cases e
    · cases e
  · cases e
end
end Jm

set_option Elab.async false
set_option linter.all false
set_option maxRecDepth 100000
set_option maxHeartbeats 4000000
/-! Jm, part Og: sorted of a tuple. -/
noncomputable section
namespace Jm
open PySem PySem.Spec PyProof.Rows L2 PySem.W PySem.SeqAt
section
variable {prog : Program} {w : World} {A : Around} {E : Value → Shared → Prop} {s : Shared}
theorem sorted_seq {it : Addr} {T : String} {o : Obj} {items : Array Value} {n : Nat} {vs : List Value} {κ : Heap → PyProof.Rows.KeyKind} {Q : Value → Shared → Prop} (hT : T = "list" ∨ T = "tuple") (ho : s.heap.get? it = some o) (hc : o.cls = .type T) (hd : o.data = .seq items n) (hv : items.toList = vs) (hL : vs.length ≤ sizeLine)
    (S : ∀ h' : Heap, (∀ b o, s.heap.get? b = some o → h'.get? b = some o) → SortsAt prog w A.in1.in1 { s with heap := sortingHeap (h'.push (seqObj "list" vs.toArray 0)) h'.objs.size vs } (κ h') vs)
    (h : ∀ h' : Heap, (∀ b o, s.heap.get? b = some o → h'.get? b = some o) → Q (.ref h'.objs.size) { s with heap := sortedHeap (h'.push (seqObj "list" vs.toArray 0)) h'.objs.size vs (sortVals (κ h') false vs vs).toArray }) :
    wpAny (model prog w) A (call (.builtin "sorted") [.ref it]) Q E s := by
  refine call_function_entry_kw kind_sorted plain_sorted entry_sorted (args_sorted1 _) ?_
  unfold Builtin.«sorted»
  refine wpAny_bind (m := checkCount "sorted" 1 1 _) (wpAny_pure ?_)
  have hz : items.size ≤ sizeLine := by rw [← hv] at hL; simpa using hL
  refine wpAny_bind (wpAny_collect_seq it hT ho hc hd (fun h' k => ?_) hz)
  rw [hv]
  refine wpAny_bind (wpAny_newList ?_ hL)
  have hoL : (h'.push (seqObj "list" vs.toArray 0)).get? h'.objs.size = some (seqObj "list" vs.toArray 0) := Heap.get?_push_size _ rfl
  refine wpAny_bind (wpAny_holding (wpAny_call_entry_kw slot_list_sort ⟨_, hoL, rfl⟩ entry_list_sort ?body (args_list_sort _)))
  exact list_sort_vals (s := { s with heap := h'.push (seqObj "list" vs.toArray 0) }) hoL (S h' k) hL ⟨_, rfl, wpAny_pure ⟨_, rfl, h h' k⟩⟩
end
def sortedUD : Prim := fun ds S => match ds with
  | [.tup xs] => match allSome (xs.map (pyV S 30)) with
    | some ys => if ordOk ys = true then mkLst ((isort dLe (xs.zip ys)).map (·.1)) S else none
    | none => none
  | _ => none
section
variable {X : Cx} {fa : Gl0}
theorem call_sortedU (hu : X.A.units + 65 < cLine) : CallR X (.builtin "sorted") (xN (rc X fa) sortedUD) := by
  intro pins s σ H xs us Q I rr ⟨p, S, ds, d, S', rs, rv, e, q⟩
  unfold sortedUD at e
  split at e
  · rename_i dl
    split at e
    · rename_i ys e2
      split at e
      · rename_i ho
        cases rv with
        | cons r1 r2 =>
          cases r2
          cases r1 with
          | @tup a vs _ tt g2 =>
            obtain ⟨its, rvs, ⟨ob, ob1, ob2, n, ob3⟩, hz⟩ := I.tuple tt.sq
            rw [Vals.ref1 rr]
            obtain ⟨o1, o2⟩ := ord_ok ho
            obtain ⟨i1, i2, i3, i4⟩ := each_sr (h := s.heap) rs (fun d v u => Dp.reads I d v u) g2 rvs e2
            have hlen : its.length ≤ sizeLine := by rw [← rvs.length]; exact hz
            have kp : ∀ h' : Heap, (∀ b o, s.heap.get? b = some o → h'.get? b = some o) → ∀ b o, s.heap.get? b = some o → b ≠ h'.objs.size ∧ (h'.push (seqObj "list" its.toArray 0)).get? b = some o := fun h' k b o e => ⟨Nat.ne_of_lt (Heap.lt_size (k b o e)), Heap.get?_push_of_some _ (k b o e)⟩
            have i3' : ∀ h' : Heap, (∀ b o, s.heap.get? b = some o → h'.get? b = some o) → EachIs (fun u d => ∃ as, Reads (sortingHeap (h'.push (seqObj "list" its.toArray 0)) h'.objs.size its) u d as) its ys := fun h' k => i3.mono fun _ _ ⟨as, r⟩ => ⟨as, Reads.keeps (fun b o e => sortingHeap_old (kp h' k b o e).1 (kp h' k b o e).2) r⟩
            refine sorted_seq (κ := fun h' => dataKind (sortingHeap (h'.push (seqObj "list" its.toArray 0)) h'.objs.size its) ys) (.inr rfl) ob1 ob2 ob3 (by simp) hlen (fun h' k => SortsAt.data (i3' h' k) o1 o2 fun d hd => ?_) fun h' k => ?_
            · have := i4 d hd
              show X.A.units + 1 + 1 + d.depth < cLine
              omega
            · have l1 : dl.length = ys.length := by rw [← i2, ← rvs.length, g2.length]
              have z := sortVals_each (κ := dataKind (sortingHeap (h'.push (seqObj "list" its.toArray 0)) h'.objs.size its) ys) (rev := false) (fun b : D × PyData => keyToks b.2) i1 (each_zip l1 (each_keys o1 (i3' h' k)))
              have z2 : EachIs (SR (rc X fa) p H s.heap) (sortVals (dataKind (sortingHeap (h'.push (seqObj "list" its.toArray 0)) h'.objs.size its) ys) false its its) (isort dLe (dl.zip ys)) := by
                rw [← dLe_sort]; exact z
              obtain ⟨ws, w1, w2⟩ := sr_back z2
              have hoL : (h'.push (seqObj "list" its.toArray 0)).get? h'.objs.size = some (seqObj "list" its.toArray 0) := Heap.get?_push_size _ rfl
              obtain ⟨ep, he'⟩ := sortedHeap_at (out := (sortVals (dataKind (sortingHeap (h'.push (seqObj "list" its.toArray 0)) h'.objs.size its) ys) false its its).toArray) hoL
              obtain ⟨n1, n2⟩ := new_list rs w2 e q
              have hn : s.heap.get? h'.objs.size = none := by
                cases e : s.heap.get? h'.objs.size with
                | none => rfl
                | some o => exact absurd (Heap.lt_size (k _ _ e)) (Nat.lt_irrefl _)
              have hH : H h'.objs.size = none := (I.hok.kept k).fresh (Nat.le_refl _)
              exact ⟨.ref _, upd H h'.objs.size (.lst ws), I.laidN (t' := s.toks) (fun b o e => by rw [sortedHeap_old (kp h' k b o e).1 (Heap.lt_size (kp h' k b o e).2)]; exact (kp h' k b o e).2) hn hH ⟨n1, _, ep, w1, he'⟩, rfl, n2 _ hH⟩
      · cases e
    · cases e
  · cases e
end
end Jm

set_option Elab.async false
set_option linter.all false
set_option maxRecDepth 100000
set_option maxHeartbeats 4000000
/-! Jm, part Ds: sorted of a dict whose keys are tuples within tuples. -/
noncomputable section
namespace Jm
open PySem PySem.Spec PyProof.Rows L2 PySem.W PySem.SeqAt
section
variable {prog : Program} {w : World} {A : Around} {E : Value → Shared → Prop} {s : Shared}
theorem sorted_dictK {d : Addr} {es : Array DictEntry} {ep : Nat} {vs : List Value} {κ : Heap → PyProof.Rows.KeyKind} {Q : Value → Shared → Prop} (hh : A.handled = none) (lo : (d == sysModules) = false) (hm : s.heap.DictRaw d es ep) (hv : es.toList.map (·.key) = vs) (hL : vs.length ≤ sizeLine)
    (S : ∀ (h' : Heap) (tk : Nat), (∀ b o, s.heap.get? b = some o → h'.get? b = some o) → SortsAt prog w A.in1.in1 { s with heap := sortingHeap (h'.push (seqObj "list" vs.toArray 0)) h'.objs.size vs, toks := tk } (κ h') vs)
    (h : ∀ (h' : Heap) (tk : Nat), (∀ b o, s.heap.get? b = some o → h'.get? b = some o) → Q (.ref h'.objs.size) { s with heap := sortedHeap (h'.push (seqObj "list" vs.toArray 0)) h'.objs.size vs (sortVals (κ h') false vs vs).toArray, toks := tk }) :
    wpAny (model prog w) A (call (.builtin "sorted") [.ref d]) Q E s := by
  refine call_function_entry_kw kind_sorted plain_sorted entry_sorted (args_sorted1 _) ?_
  unfold Builtin.«sorted»
  refine wpAny_bind (m := checkCount "sorted" 1 1 _) (wpAny_pure ?_)
  have hz : es.size ≤ sizeLine := by rw [← hv] at hL; simpa using hL
  refine wpAny_bind (kdu_collect (A := A.in1) (KdlSrc.rawDict (prog := prog) (w := w) (es := es) (ep := ep) lo) hh hm hz fun h' tk acc k hacc => ?_)
  have ha : acc.toList = vs := by
    rw [← hv]
    refine List.ext_getElem? fun j => ?_
    rw [List.getElem?_map]
    cases e : acc.toList[j]? with
    | none =>
      have := List.getElem?_eq_none_iff.mp e
      rw [List.getElem?_eq_none (by rw [Array.length_toList, ← hacc.1]; simpa using this)]; rfl
    | some v =>
      obtain ⟨hi, hk⟩ := hacc.2 j v (by rw [← Array.getElem?_toList]; exact e)
      rw [List.getElem?_eq_getElem (by simpa using hi), Option.map_some, hk]
      simp
  rw [ha]
  refine wpAny_bind (wpAny_newList ?_ hL)
  have hoL : (h'.push (seqObj "list" vs.toArray 0)).get? h'.objs.size = some (seqObj "list" vs.toArray 0) := Heap.get?_push_size _ rfl
  refine wpAny_bind (wpAny_holding (wpAny_call_entry_kw slot_list_sort ⟨_, hoL, rfl⟩ entry_list_sort ?body (args_list_sort _)))
  exact list_sort_vals (s := { s with heap := h'.push (seqObj "list" vs.toArray 0), toks := tk }) hoL (S h' tk k) hL ⟨_, rfl, wpAny_pure ⟨_, rfl, h h' tk k⟩⟩
end
def sortedND : Prim := fun ds S => match ds with
  | [.loc l] => match S[l]? with
    | some (.dcN kvs) => match allSome ((kvs.map fun kv => unN kv.1).map (pyV S 30)) with
      | some ys => if ordOk ys = true then mkLst ((isort dLe ((kvs.map fun kv => unN kv.1).zip ys)).map (·.1)) S else none
      | none => none
    | _ => none
  | _ => none
section
variable {X : Cx} {fa : Gl0}
theorem rn_keys {p : List Addr} {H : Hp} : ∀ {kvs : List (NestedKey × D)} {xs : List (NestedKey × Addr × Value)}, Paired (RN (rc X fa) p H) kvs xs → RVs (rc X fa) p H (kvs.map fun kv => unN kv.1) (xs.map fun y => V.ref y.2.1)
  | _, _, .nil => .nil
  | _, _, .cons (a := x) (b := y) h t => by
    obtain ⟨h1, ⟨ds, h2, h3, _⟩, _⟩ := h
    refine .cons ?_ (rn_keys t)
    show RV (rc X fa) p H (unN x.1) (.ref y.2.1)
    rw [h1, unN_of h3]
    exact h2
theorem vals_refs2 : ∀ (xs : List (NestedKey × Addr × Value)), Vals (xs.map fun y => V.ref y.2.1) (xs.map fun y => Value.ref y.2.1)
  | [] => .nil
  | _ :: xs => .cons rfl (vals_refs2 xs)
theorem call_sortedN (hc : X.calm = true) (hu : X.A.units + 65 < cLine) : CallR X (.builtin "sorted") (xN (rc X fa) sortedND) := by
  intro pins s σ H xs us Q I rr ⟨p, S, ds, d, S', rs, rv, e, q⟩
  unfold sortedND at e
  split at e
  · rename_i l
    split at e
    · rename_i kvs el
      split at e
      · rename_i ys e2
        split at e
        · rename_i ho
          cases rv with
          | cons r1 r2 =>
            cases r2
            cases r1 with
            | @loc _ a hl =>
              rw [Vals.ref1 rr]
              have ro := rs.at_ l _ a el hl
              obtain ⟨xs, hm, hz0, hd, h4, _⟩ := dict_n I ro rfl
              obtain ⟨ob, es, ep, b1, b2, b3, b4, _⟩ := id hm
              have g2 := rn_keys h4
              have rvs := vals_refs2 xs
              generalize hits : (xs.map fun y => Value.ref y.2.1) = its at rvs
              have hes : es.toList.map (·.key) = its := by rw [b4, List.map_map, ← hits]; rfl
              have hz : its.length ≤ sizeLine := by rw [← hits, List.length_map]; exact hz0
              obtain ⟨o1, o2⟩ := ord_ok ho
              obtain ⟨i1, i2, i3, i4⟩ := each_sr (h := s.heap) rs (fun d v u => Dp.reads I d v u) g2 rvs e2
              generalize hdl : (kvs.map fun kv => unN kv.1) = dl at g2 i1 i2 e2 e
              generalize hvv : (xs.map fun y => V.ref y.2.1) = vs at g2 rvs
              have hlen : its.length ≤ sizeLine := hz
              have kp : ∀ h' : Heap, (∀ b o, s.heap.get? b = some o → h'.get? b = some o) → ∀ b o, s.heap.get? b = some o → b ≠ h'.objs.size ∧ (h'.push (seqObj "list" its.toArray 0)).get? b = some o := fun h' k b o e => ⟨Nat.ne_of_lt (Heap.lt_size (k b o e)), Heap.get?_push_of_some _ (k b o e)⟩
              have i3' : ∀ h' : Heap, (∀ b o, s.heap.get? b = some o → h'.get? b = some o) → EachIs (fun u d => ∃ as, Reads (sortingHeap (h'.push (seqObj "list" its.toArray 0)) h'.objs.size its) u d as) its ys := fun h' k => i3.mono fun _ _ ⟨as, r⟩ => ⟨as, Reads.keeps (fun b o e => sortingHeap_old (kp h' k b o e).1 (kp h' k b o e).2) r⟩
              refine sorted_dictK (κ := fun h' => dataKind (sortingHeap (h'.push (seqObj "list" its.toArray 0)) h'.objs.size its) ys) (I.ok.hd hc) hd ⟨ob, b1, b2, b3⟩ hes hlen (fun h' tk k => SortsAt.data (i3' h' k) o1 o2 fun d hd => ?_) fun h' tk k => ?_
              · have := i4 d hd
                show X.A.units + 1 + 1 + d.depth < cLine
                omega
              · have l1 : dl.length = ys.length := by rw [← i2, ← rvs.length, g2.length]
                have z := sortVals_each (κ := dataKind (sortingHeap (h'.push (seqObj "list" its.toArray 0)) h'.objs.size its) ys) (rev := false) (fun b : D × PyData => keyToks b.2) i1 (each_zip l1 (each_keys o1 (i3' h' k)))
                have z2 : EachIs (SR (rc X fa) p H s.heap) (sortVals (dataKind (sortingHeap (h'.push (seqObj "list" its.toArray 0)) h'.objs.size its) ys) false its its) (isort dLe (dl.zip ys)) := by
                  rw [← dLe_sort]; exact z
                obtain ⟨ws, w1, w2⟩ := sr_back z2
                have hoL : (h'.push (seqObj "list" its.toArray 0)).get? h'.objs.size = some (seqObj "list" its.toArray 0) := Heap.get?_push_size _ rfl
                obtain ⟨ep', he'⟩ := sortedHeap_at (out := (sortVals (dataKind (sortingHeap (h'.push (seqObj "list" its.toArray 0)) h'.objs.size its) ys) false its its).toArray) hoL
                obtain ⟨n1, n2⟩ := new_list rs w2 e q
                have hn : s.heap.get? h'.objs.size = none := by
                  cases e : s.heap.get? h'.objs.size with
                  | none => rfl
                  | some o => exact absurd (Heap.lt_size (k _ _ e)) (Nat.lt_irrefl _)
                have hH : H h'.objs.size = none := (I.hok.kept k).fresh (Nat.le_refl _)
                exact ⟨.ref _, upd H h'.objs.size (.lst ws), I.laidN (t' := tk) (fun b o e => by rw [sortedHeap_old (kp h' k b o e).1 (Heap.lt_size (kp h' k b o e).2)]; exact (kp h' k b o e).2) hn hH ⟨n1, _, ep', w1, he'⟩, rfl, n2 _ hH⟩
        · cases e
      · cases e
    · cases e
  · cases e
end
end Jm

set_option Elab.async false
set_option linter.all false
set_option maxRecDepth 100000
set_option maxHeartbeats 4000000
/-! Jm, part Oe: the least of nested data; < on nested data. -/
noncomputable section
namespace Jm
open PySem PySem.Spec PyProof.Rows L2 PySem.W PySem.SeqAt
/-! ### data of a shape, back -/
def ofSh : Sh → PyData → D
  | .i, d => (match d with
    | .int a => .int a
    | _ => .non)
  | .s, d => (match d with
    | .str a => .str a
    | _ => .non)
  | .a h, d => (match d with
    | .tuple xs => .tup (xs.map (ofSh h))
    | _ => .non)
  | .p h k, d => (match d with
    | .tuple [x, y] => .tup [ofSh h x, ofSh k y]
    | _ => .non)
  | .q h k l, d => (match d with
    | .tuple [x, y, z] => .tup [ofSh h x, ofSh k y, ofSh l z]
    | _ => .non)
  | .pq h k l, d => (match d with
    | .tuple [x, y] => .tup [ofSh h x, ofSh k y]
    | .tuple [x, y, z] => .tup [ofSh h x, ofSh k y, ofSh l z]
    | _ => .non)
/-- nothing but whole numbers, texts, tuples -/
theorem pyV_tup {S : Sto} {n : Nat} {d : D} {xs : List PyData} (h : pyV S n d = some (.tuple xs)) : ∃ (m : Nat) (ds : List D), n = m + 1 ∧ d = .tup ds ∧ allSome (ds.map (pyV S m)) = some xs := by
  cases n with
  | zero => cases h
  | succ n =>
    cases d with
    | tup ds =>
      have h : (allSome (ds.map (pyV S n))).map PyData.tuple = some (.tuple xs) := h
      cases e : allSome (ds.map (pyV S n)) with
      | none => rw [e] at h; cases h
      | some l => rw [e] at h; cases h; exact ⟨n, ds, rfl, rfl, e⟩
    | loc l =>
      have h : (match lstAt S l with | some xs => (allSome (xs.map (pyV S n))).map PyData.list | none => none) = some (.tuple xs) := h
      split at h
      · rename_i ds _
        cases e : allSome (ds.map (pyV S n)) with
        | none => rw [e] at h; cases h
        | some l => rw [e] at h; cases h
      · cases h
    | str x =>
      have h : (if PyData.strOk x = true then some (PyData.str x) else none) = some (.tuple xs) := h
      split at h <;> cases h
    | _ => cases h
theorem pyV_int {S : Sto} {n : Nat} {d : D} {i : Int} (h : pyV S n d = some (.int i)) : d = .int i := by
  cases n with
  | zero => cases h
  | succ n =>
    cases d with
    | int j => cases h; rfl
    | tup ds =>
      have h : (allSome (ds.map (pyV S n))).map PyData.tuple = some (.int i) := h
      cases e : allSome (ds.map (pyV S n)) with
      | none => rw [e] at h; cases h
      | some l => rw [e] at h; cases h
    | loc l =>
      have h : (match lstAt S l with | some xs => (allSome (xs.map (pyV S n))).map PyData.list | none => none) = some (.int i) := h
      split at h
      · rename_i ds _
        cases e : allSome (ds.map (pyV S n)) with
        | none => rw [e] at h; cases h
        | some l => rw [e] at h; cases h
      · cases h
    | str x =>
      have h : (if PyData.strOk x = true then some (PyData.str x) else none) = some (.int i) := h
      split at h <;> cases h
    | _ => cases h
theorem pyV_str {S : Sto} {n : Nat} {d : D} {i : Str} (h : pyV S n d = some (.str i)) : d = .str i := by
  cases n with
  | zero => cases h
  | succ n =>
    cases d with
    | tup ds =>
      have h : (allSome (ds.map (pyV S n))).map PyData.tuple = some (.str i) := h
      cases e : allSome (ds.map (pyV S n)) with
      | none => rw [e] at h; cases h
      | some l => rw [e] at h; cases h
    | loc l =>
      have h : (match lstAt S l with | some xs => (allSome (xs.map (pyV S n))).map PyData.list | none => none) = some (.str i) := h
      split at h
      · rename_i ds _
        cases e : allSome (ds.map (pyV S n)) with
        | none => rw [e] at h; cases h
        | some l => rw [e] at h; cases h
      · cases h
    | str x =>
      have h : (if PyData.strOk x = true then some (PyData.str x) else none) = some (.str i) := h
      split at h
      · cases h; rfl
      · cases h
    | _ => cases h
theorem of_all {S : Sto} {n : Nat} {h : Sh} (F : ∀ d y, fits h y = true → pyV S n d = some y → d = ofSh h y) : ∀ (ds : List D) (ys : List PyData), ys.all (fits h) = true → allSome (ds.map (pyV S n)) = some ys → ds = ys.map (ofSh h)
  | [], ys, _, e => by cases e; rfl
  | d :: ds, ys, f, e => by
    obtain ⟨a, k, e1, e2, rfl⟩ := allSome_cons e
    rw [List.all_cons, Bool.and_eq_true] at f
    rw [List.map_cons, ← F d a f.1 e1, ← of_all F ds k f.2 e2]
theorem of_one {S : Sto} : ∀ (h : Sh) (n : Nat) (d : D) (y : PyData), fits h y = true → pyV S n d = some y → d = ofSh h y
  | .i, n, d, y, f, e => by obtain ⟨a, rfl⟩ := fits_i f; exact pyV_int e
  | .s, n, d, y, f, e => by obtain ⟨a, rfl⟩ := fits_s f; exact pyV_str e
  | .a h, n, d, y, f, e => by
    unfold fits at f
    split at f
    · rename_i xs
      obtain ⟨m, ds, rfl, rfl, e2⟩ := pyV_tup e
      show D.tup ds = D.tup (xs.map (ofSh h))
      rw [of_all (of_one h m) ds xs f e2]
    · cases f
  | .p h k, n, d, y, f, e => by
    unfold fits at f
    split at f
    · rename_i a b
      rw [Bool.and_eq_true] at f
      obtain ⟨m, ds, rfl, rfl, e2⟩ := pyV_tup e
      cases ds with
      | nil => cases e2
      | cons d1 ds =>
        obtain ⟨_, k1, g1, e2, g⟩ := allSome_cons e2
        cases g
        cases ds with
        | nil => cases e2
        | cons d2 ds =>
          obtain ⟨_, k2, g2, e2, g⟩ := allSome_cons e2
          cases g
          cases ds with
          | cons d3 ds =>
            obtain ⟨_, k2, g2, e2, g⟩ := allSome_cons e2
            cases g
          | nil =>
            show D.tup [d1, d2] = D.tup [ofSh h a, ofSh k b]
            rw [of_one h m d1 a f.1 g1, of_one k m d2 b f.2 g2]
    · cases f
  | .q h k l, n, d, y, f, e => by
    unfold fits at f
    split at f
    · rename_i a b c
      rw [Bool.and_eq_true, Bool.and_eq_true] at f
      obtain ⟨m, ds, rfl, rfl, e2⟩ := pyV_tup e
      cases ds with
      | nil => cases e2
      | cons d1 ds =>
        obtain ⟨_, k1, g1, e2, g⟩ := allSome_cons e2
        cases g
        cases ds with
        | nil => cases e2
        | cons d2 ds =>
          obtain ⟨_, k2, g2, e2, g⟩ := allSome_cons e2
          cases g
          cases ds with
          | nil => cases e2
          | cons d3 ds =>
            obtain ⟨_, k2, g3, e2, g⟩ := allSome_cons e2
            cases g
            cases ds with
            | cons d4 ds =>
              obtain ⟨_, k2, g2, e2, g⟩ := allSome_cons e2
              cases g
            | nil =>
              show D.tup [d1, d2, d3] = D.tup [ofSh h a, ofSh k b, ofSh l c]
              rw [of_one h m d1 a f.1 g1, of_one k m d2 b f.2.1 g2, of_one l m d3 c f.2.2 g3]
    · cases f
  | .pq h k l, n, d, y, f, e => by
    unfold fits at f
    split at f
    · rename_i a b
      rw [Bool.and_eq_true] at f
      obtain ⟨m, ds, rfl, rfl, e2⟩ := pyV_tup e
      cases ds with
      | nil => cases e2
      | cons d1 ds =>
        obtain ⟨_, k1, g1, e2, g⟩ := allSome_cons e2
        cases g
        cases ds with
        | nil => cases e2
        | cons d2 ds =>
          obtain ⟨_, k2, g2, e2, g⟩ := allSome_cons e2
          cases g
          cases ds with
          | cons d3 ds =>
            obtain ⟨_, k2, g2, e2, g⟩ := allSome_cons e2
            cases g
          | nil =>
            show D.tup [d1, d2] = D.tup [ofSh h a, ofSh k b]
            rw [of_one h m d1 a f.1 g1, of_one k m d2 b f.2 g2]
    · rename_i a b c
      rw [Bool.and_eq_true, Bool.and_eq_true] at f
      obtain ⟨m, ds, rfl, rfl, e2⟩ := pyV_tup e
      cases ds with
      | nil => cases e2
      | cons d1 ds =>
        obtain ⟨_, k1, g1, e2, g⟩ := allSome_cons e2
        cases g
        cases ds with
        | nil => cases e2
        | cons d2 ds =>
          obtain ⟨_, k2, g2, e2, g⟩ := allSome_cons e2
          cases g
          cases ds with
          | nil => cases e2
          | cons d3 ds =>
            obtain ⟨_, k2, g3, e2, g⟩ := allSome_cons e2
            cases g
            cases ds with
            | cons d4 ds =>
              obtain ⟨_, k2, g2, e2, g⟩ := allSome_cons e2
              cases g
            | nil =>
              show D.tup [d1, d2, d3] = D.tup [ofSh h a, ofSh k b, ofSh l c]
              rw [of_one h m d1 a f.1 g1, of_one k m d2 b f.2.1 g2, of_one l m d3 c f.2.2 g3]
    · cases f
/-! ### min(a, b) of data -/
section
variable {prog : Program} {w : World} {A : Around} {E : Value → Shared → Prop} {s : Shared}
theorem call_min_twoH {a b : Value} {Q : Value → Shared → Prop}
    (h : wpAny (model prog w) A.in1 (pyIter (.ref s.heap.objs.size)) (fun it s₂ => ∃ I fp wr G n P St H bt, it = .ref I ∧ WalksS prog w A.in1 I fp wr G n P St ∧ St 0 s₂ ∧ (∀ b ∈ fp, b < s₂.heap.objs.size) ∧ 0 < n ∧
      (∀ b o, H.get? b = some o → b ∉ wr) ∧ (∀ b o, H.get? b = some o → s₂.heap.get? b = some o) ∧ CmpIn prog w A.in1 .Lt H P bt ∧ ∀ v s', P (argBest bt (n - 1)) v → Moved wr G s₂ s' → Q v s') E { s with heap := s.heap.push { cls := .type "tuple", data := .seq #[a, b] } }) :
    wpAny (model prog w) A (call (.builtin "min") [a, b]) Q E s := by
  have hname : (toString "min" ++ toString ".loop" : String) = "min.loop" := by decide
  refine call_function_tree F.kind_min F.plain_min F.entry_min (F.args_min2 _ _) ?_
  show wpAny _ A.in1 (Builtin.Builtins.bindParams "min" ["key", "default"] 0 ⟨[], []⟩ >>= _) _ _ s
  refine wpAny_bind (wpAny_of_eq (show Builtin.Builtins.bindParams "min" ["key", "default"] 0 ⟨[], []⟩ = pure [none, none] from rfl) ?_)
  show wpAny _ A.in1 (newTuple [a, b] >>= _) _ _ s
  refine wpAny_bind (wpAny_newObj_type ?_)
  refine wpAny_bind (wpAny_mono h (fun it s₂ h₂ => ?_) fun _ _ e => e)
  obtain ⟨I, fp, wr, G, n, P, St, H, bt, rfl, W, hst, hfp, hn, hw, hkeep, hcmp, hQ⟩ := h₂
  refine wpAny_bind (wpAny_newObj_type ?_)
  have hSf : s₂.heap.objs.size ∉ fp := fun hm => Nat.lt_irrefl _ (hfp _ hm)
  rw [hname]
  refine wpAny_pure ⟨plainId_quiet F.plain_min_loop _, codeAny_min_loop_firstH W H hw bt hcmp s₂.heap.objs.size hSf (fresh_in hkeep) _ hn (fun b o e => Heap.get?_push_of_some _ (hkeep b o e)) (W.frame 0 s₂ _ s₂.toks hst (Nat.le_refl _) fun b _ o e => Heap.get?_push_of_some _ e) (Heap.get?_push_size _ rfl) fun v s' hP hm => ?_⟩
  exact hQ v s' hP (Moved.drop_new (tk := s₂.toks) hm (Nat.le_refl _))
theorem min_two_data {a b : Value} {x y : PyData} {as bs : List Addr} {Q : Value → Shared → Prop} (hh : A.handled = none) (ra : Reads s.heap a x as) (rb : Reads s.heap b y bs) (ha : AlikeAll [x, y]) (hu : A.units + 1 + PyData.depthAll [x, y] < cLine)
    (h : ∀ h' tk, (∀ b o, s.heap.get? b = some o → h'.get? b = some o) → Q (if dataLt y x = true then b else a) { s with heap := h', toks := tk }) :
    wpAny (model prog w) A (call (.builtin "min") [a, b]) Q E s := by
  have hT : (s.heap.push { cls := .type "tuple", data := .seq #[a, b] }).IsTuple s.heap.objs.size #[a, b] := ⟨_, Heap.get?_push_size _ rfl, rfl, 0, rfl⟩
  have kp : ∀ c o, s.heap.get? c = some o → (s.heap.push { cls := .type "tuple", data := .seq #[a, b] }).get? c = some o := fun c o e => Heap.get?_push_of_some _ e
  have hr : ReadsAll (s.heap.push { cls := .type "tuple", data := .seq #[a, b] }) (#[a, b] : Array Value).toList [x, y] (as ++ (bs ++ [])) := .cons (Reads.keeps kp ra) (.cons (Reads.keeps kp rb) .nil)
  refine call_min_twoH (iter_tupleW (A := A.in1) (s := { s with heap := s.heap.push { cls := .type "tuple", data := .seq #[a, b] } }) hh hT fun s₂ e W st hfp hw hk => ?_)
  refine ⟨_, _, _, _, _, _, _, s.heap.push { cls := .type "tuple", data := .seq #[a, b] }, _, rfl, W, st, hfp, by simp, hw, hk, cmpIn_lt (A := A.in1) (s := { s with heap := s.heap.push { cls := .type "tuple", data := .seq #[a, b] } }) hr ha (by show A.units + 1 + _ < _; exact hu), fun v s' hP m => ?_⟩
  obtain ⟨h', tk, rfl, hk'⟩ := moved_old e rfl m
  have hP : (#[a, b] : Array Value)[argBest (fun i j => dataLt ([x, y].getD i .none) ([x, y].getD j .none)) 1]? = some v := hP
  have hv : v = if dataLt y x = true then b else a := by
    by_cases c : dataLt y x = true
    · rw [if_pos c]
      have e : argBest (fun i j => dataLt ([x, y].getD i .none) ([x, y].getD j .none)) 1 = 1 := by simp [argBest, c]
      rw [e] at hP
      simpa using hP.symm
    · rw [if_neg c]
      have e : argBest (fun i j => dataLt ([x, y].getD i .none) ([x, y].getD j .none)) 1 = 0 := by simp [argBest, c]
      rw [e] at hP
      simpa using hP.symm
  rw [hv]
  exact h h' tk fun c o q => hk' c o (kp c o q)
end
end Jm

set_option Elab.async false
set_option linter.all false
set_option maxRecDepth 100000
set_option maxHeartbeats 4000000
/-! Jm, part La: list comprehensions of any number of clauses, over the library's words. -/
noncomputable section
namespace Jm
open PySem PySem.Spec PyProof.Rows L2
theorem compTurnL (elt t i : Expr) (ifs : List Expr) (gs : List Comprehension) (k : Nat) (scope : Scope) (pos : Pos) (it acc : Value) (env : Env) (hk : gs[k]? = some ⟨t, i, ifs, 0⟩) (hn : gs[k + 1]? = none) :
    compTurn (.ListComp elt gs scope pos) k it acc env = (do
      standAt i.pos
      match ← pyNext it with
      | none => pure (.done .next)
      | some v =>
        letOwnedTupleGo t it v
        assign t env v
        let mut ok := true
        for c in ifs do
          if ok then
            ok ← isTrue c env (eval c env)
        if ok then
          (do let _ ← call (.builtin "list.append") [acc, ← eval elt env])
        again (.compLoop (.ListComp elt gs scope pos) k it acc env)) := by
  unfold compTurn
  simp only [hk, hn]
  rfl
theorem compTurnM (elt t i t1 i1 : Expr) (ifs ifs1 : List Expr) (gs : List Comprehension) (k : Nat) (scope : Scope) (pos : Pos) (it acc : Value) (env : Env) (hk : gs[k]? = some ⟨t, i, ifs, 0⟩) (hn : gs[k + 1]? = some ⟨t1, i1, ifs1, 0⟩) :
    compTurn (.ListComp elt gs scope pos) k it acc env = (do
      standAt i.pos
      match ← pyNext it with
      | none => pure (.done .next)
      | some v =>
        letOwnedTupleGo t it v
        assign t env v
        let mut ok := true
        for c in ifs do
          if ok then
            ok ← isTrue c env (eval c env)
        if ok then
          let x ← eval i1 env
          standAt i1.pos
          let x ← foldedSetIterable i1 env x
          let _ ← runOwn (.compStart (.ListComp elt gs scope pos) (k + 1) (← holding [x] (pyIter x)) acc env) env
        again (.compLoop (.ListComp elt gs scope pos) k it acc env)) := by
  unfold compTurn
  simp only [hk, hn]
  rfl
section
variable {prog : Program} {w : World} {A : Around} {R : Result → Shared → Prop} {s : Shared} {elt : Expr} {gs : List Comprehension} {scope : Scope} {pos : Pos} {acc : Value} {env : Env}
/-- what is behind a clause's tests: the element put in, or the next clause -/
def Body (prog : Program) (w : World) (A : Around) (elt : Expr) (gs : List Comprehension) (scope : Scope) (pos : Pos) (acc : Value) (env : Env) (k : Nat) (K : Shared → Prop) (E : Value → Shared → Prop) (s : Shared) : Prop := match gs[k + 1]? with
  | none => wpAny (model prog w) A (eval elt env) (fun x s₄ => wpAny (model prog w) A (call (.builtin "list.append") [acc, x]) (fun _ s₅ => K s₅) E s₄) E s
  | some g => wpAny (model prog w) A (eval g.iter env) (fun x s₄ => wpAny (model prog w) A (pyIter x) (fun it1 s₅ =>
      codeAny (model prog w) A (.compStart (.ListComp elt gs scope pos) (k + 1) it1 acc env) (fun r s' => match r with
        | .ok _ => K s'
        | .error _ => False) s₅) E s₄) E s
/-- where an exception goes that a turn lets out -/
abbrev Out1 (prog : Program) (w : World) (A : Around) (env : Env) (R : Result → Shared → Prop) : Value → Shared → Prop := notedBy (model prog w) A env fun x z => R (.error x) z
/-- what a turn has to do with the item -/
def Turn1 (prog : Program) (w : World) (A : Around) (env : Env) (c : Comprehension) (it : Value) (R : Result → Shared → Prop) (yes no : Shared → Prop) (o : Option Value) (z : Shared) : Prop := match o with
  | none => R (.ok .next) z
  | some v => wpAny (model prog w) A (letOwnedTupleGo c.target it v) (fun _ z1 => wpAny (model prog w) A (assign c.target env v)
      (fun _ z2 => wpAny (model prog w) A (forIn c.ifs true fun e b => if b = true then (do let k ← isTrue e env (eval e env); pure (ForInStep.yield k)) else pure (ForInStep.yield b)) (fun k z3 => if k = true then yes z3 else no z3) (Out1 prog w A env R) z2)
      (Out1 prog w A env R) z1) (Out1 prog w A env R) z
theorem compLoopN {c : Comprehension} {k : Nat} {it : Value} (hk : gs[k]? = some c) (ha : c.is_async = 0) (hs : ∀ g, gs[k + 1]? = some g → g.is_async = 0 ∧ ∀ x, foldedSetIterable g.iter env x = pure x) (I : Nat → Shared → Prop)
    (turn : ∀ n z, I n z → wpAny (model prog w) A (pyNext it) (Turn1 prog w A env c it R (Body prog w A elt gs scope pos acc env k (fun y => ∃ m, m < n ∧ I m y) (Out1 prog w A env R)) (fun y => ∃ m, m < n ∧ I m y)) (Out1 prog w A env R) z)
    (n : Nat) (h : I n s) : codeAny (model prog w) A (.compLoop (.ListComp elt gs scope pos) k it acc env) R s := by
  obtain ⟨t, i, ifs, a⟩ := c
  have ha : a = 0 := ha
  subst ha
  refine codeAny_loop rfl I (fun n z hz => ?_) n h
  show wpAny _ A ((compTurn _ k it acc env).onRaise (fun x => do noteFrame x env; theTreesLotGoes x)) _ _ z
  refine wpAny_noted ?_
  have tn := turn n z hz
  have up : ∀ {A1 : Type} {f : Sem A1} {P P' : A1 → Shared → Prop} {z : Shared}, wpAny (model prog w) A f P (Out1 prog w A env R) z → (∀ a z, P a z → P' a z) → wpAny (model prog w) A f P' (Out1 prog w A env R) z := fun h1 h2 => wpAny_mono h1 h2 fun _ _ y => y
  unfold Body at tn
  cases hn : gs[k + 1]? with
  | none =>
    rw [hn] at tn
    rw [compTurnL _ _ _ _ _ _ _ _ _ _ _ hk hn]
    refine wpAny_bind (wpAny_standAt (wpAny_bind (up tn fun o z1 h1 => ?_)))
    cases o with
    | none => exact wpAny_pure h1
    | some v =>
      refine wpAny_bind (up h1 fun _ z2 h2 => wpAny_bind (up h2 fun _ z3 h3 => wpAny_bind (up h3 fun b z4 h4 => ?_)))
      cases b with
      | false => exact wpAny_pure (And.intro rfl h4)
      | true => exact wpAny_bind (wpAny_bind (up h4 fun _ _ h5 => wpAny_bind (up h5 fun _ _ h6 => wpAny_pure (wpAny_pure (And.intro rfl h6)))))
  | some g =>
    obtain ⟨t1, i1, ifs1, a1⟩ := g
    obtain ⟨ha, hs1⟩ := hs _ hn
    have ha : a1 = 0 := ha
    subst ha
    rw [hn] at tn
    rw [compTurnM _ _ _ _ _ _ _ _ _ _ _ _ _ _ hk hn]
    refine wpAny_bind (wpAny_standAt (wpAny_bind (up tn fun o z1 h1 => ?_)))
    cases o with
    | none => exact wpAny_pure h1
    | some v =>
      refine wpAny_bind (up h1 fun _ z2 h2 => wpAny_bind (up h2 fun _ z3 h3 => wpAny_bind (up h3 fun b z4 h4 => ?_)))
      cases b with
      | false => exact wpAny_pure (And.intro rfl h4)
      | true =>
        refine wpAny_bind (up h4 fun x z5 h5 => wpAny_bind (wpAny_standAt (wpAny_bind (wpAny_of_eq (hs1 x) (wpAny_bind (wpAny_holding (up h5 fun it1 z6 h6 => ?_)))))))
        refine wpAny_bind (wpAny_runOwn (by
          rw [Around.mark_none]
          refine codeAny_mono h6 fun r z7 h7 => ?_
          cases r with
          | error e => exact h7.elim
          | ok f => first | exact wpAny_pure (And.intro rfl h7) | exact wpAny_bind (wpAny_pure (wpAny_pure (And.intro rfl h7)))))
theorem compStartN {c : Comprehension} {k : Nat} {it : Value} (hk : gs[k]? = some c) (ha : c.is_async = 0) (h0 : codeAny (model prog w) A (.compLoop (.ListComp elt gs scope pos) k it acc env) R s)
    (h : wpAny (model prog w) A (pyIter it) (fun j z => codeAny (model prog w) A (.compLoop (.ListComp elt gs scope pos) k j acc env) R z) (Out1 prog w A env R) s) :
    codeAny (model prog w) A (.compStart (.ListComp elt gs scope pos) k it acc env) R s := by
  obtain ⟨t, i, ifs, a⟩ := c
  have ha : a = 0 := ha
  subst ha
  refine codeAny_of_tree ?_
  show wpAny _ _ ((compStart _ k it acc env).onRaise (fun x => do noteFrame x env; standAt theWindowsPlace)) _ _ s
  refine wpAny_notedAt ?_
  unfold compStart
  rw [show (clausesOf (.ListComp elt gs scope pos))[k]? = some ⟨t, i, ifs, 0⟩ from hk]
  show wpAny _ _ (ask >>= fun _ => _) _ _ s
  refine wpAny_bind (wpAny_askSetting (wpAny_ite ?_))
  split
  · (try refine wpAny_bind (wpAny_pure ?_))
    exact wpAny_pure ⟨rfl, h0⟩
  · refine wpAny_bind (wpAny_rule ?_)
    show wpAny _ _ (standAt i.pos >>= fun _ => _) _ _ s
    exact wpAny_bind (wpAny_standAt (wpAny_bind (wpAny_mono h (fun _ _ hz => wpAny_pure ⟨rfl, hz⟩) fun _ _ y => y)))
end
/-! ### the clauses behind the first -/
structure ClX where
  tg : Expr
  iter : Expr
  ifs : List Expr
  wi : TI
  g : TG
  tt : TT
  vs : List Nat
def ClX.c (q : ClX) : Comprehension := ⟨q.tg, q.iter, q.ifs, 0⟩
/-- Nx: reached behind the clauses; D: the new list -/
def tIn (te : TE) (D : Addr) : List ClX → L2.St → Hp → (Hp → Prop) → Prop
  | [], σ, H, Nx => te σ H fun y H7 => ∃ acc, H7 D = some (.lst acc) ∧ acc.length < sizeLine ∧ Nx (upd H7 D (.lst (acc ++ [y])))
  | c :: r, σ, H, Nx => c.wi σ H fun J H4 => ∃ W1 : Nat → Nat → Hp → Prop, (∃ m, W1 0 m H4) ∧ ∀ j k H, W1 j k H →
      (J.stop j H ∧ Nx H) ∨ (J.go j H ∧ ∃ Nx1 : Hp → Prop, (∀ H', Nx1 H' → ∃ k', k' < k ∧ W1 (j + 1) k' H') ∧ ∀ x H', J.yld j H x H' → c.g x (wipe σ c.vs) H' fun σ3 H5 => wipe σ3 c.vs = wipe σ c.vs ∧ c.tt σ3 H5 fun b H6 =>
        if b = true then tIn te D r σ3 H6 Nx1 else Nx1 H6)
structure ClOk (B : Cx) (q : ClX) : Prop where
  pi : PI B q.tg q.iter q.wi
  pg : PG B q.tg q.g
  pt : PTs B q.ifs q.tt
  fs : ∀ env x, foldedSetIterable q.iter env x = pure x
def nest : List Nat → List ClX → Prop
  | _, [] => True
  | vs, q :: r => (∀ i ∈ q.vs, i ∈ vs) ∧ nest q.vs r
theorem wipe_sub {σ : L2.St} {vs us : List Nat} (h : ∀ i ∈ us, i ∈ vs) {j : Nat} {v : V} (e : (wipe σ vs)[j]? = some (some v)) : (wipe σ us)[j]? = some (some v) := by
  obtain ⟨e1, e2⟩ := wipe_some e
  rw [wipe_out fun z => e2 (h j z)]
  exact e1
theorem drop_cons {A : Type} {l : List A} {k : Nat} {a : A} {r : List A} (h : l.drop k = a :: r) : l[k]? = some a ∧ l.drop (k + 1) = r := by
  have h1 : (l.drop k)[0]? = some a := by rw [h]; rfl
  rw [List.getElem?_drop] at h1
  refine ⟨by simpa using h1, ?_⟩
  rw [← List.drop_drop, h]; rfl
theorem thnB {α : Type} {t : Sem α} {Q Q' : α → Shared → Prop} {M : Model} {A : Around} {E F : Value → Shared → Prop} {s : Shared} (hx : ∀ v s, ¬ F v s) (h : wpAny M A t Q F s) (hQ : ∀ a s, Q a s → Q' a s) : wpAny M A t Q' E s := wpAny_mono h hQ fun v s z => (hx v s z).elim
/-- a clause's loop, what is behind its tests given: it ends where Ed holds -/
theorem loop_ok {B : Cx} {elt : Expr} {gs : List Comprehension} {scope : Scope} {pos : Pos} {D it : Addr} {q : ClX} {k : Nat} {pins : List (Addr × Obj)} {σ : L2.St} {fp : List Addr} {tn : Nat → Heap → Prop} {J : It} {R : Result → Shared → Prop} {inn : L2.St → Hp → (Hp → Prop) → Prop} {Ed : Hp → Prop} {m0 : Nat} {s : Shared} {H : Hp} {W : Nat → Nat → Hp → Prop}
    (hc : B.calm = true) (hx : ∀ v s, ¬ B.xe v s) (hk : gs[k]? = some q.c) (hnx : ∀ g, gs[k + 1]? = some g → g.is_async = 0 ∧ ∀ x, foldedSetIterable g.iter B.env x = pure x) (hg : PG B q.tg q.g) (ht : PTs B q.ifs q.tt)
    (hin : ∀ (pins : List (Addr × Obj)) (σ : L2.St) (H : Hp) (s : Shared) (Nx : Hp → Prop) (K : Shared → Prop) (E : Value → Shared → Prop), Inv B pins σ H s → inn σ H Nx →
      (∀ s' σ' H', Inv B pins σ' H' s' → σ'.length = σ.length → (∀ (j : Nat) v, (wipe σ q.vs)[j]? = some (some v) → σ'[j]? = some (some v)) → Nx H' → K s') → Body B.prog B.w B.A elt gs scope pos (.ref D) B.env k K E s)
    (T : Turn B.prog B.w B.K q.tg J fp it tn) (st0 : tn 0 s.heap) (I0 : Inv B pins (wipe σ q.vs) H s) (fpo : ∀ {σ' : L2.St} {s' : Shared} {H' : Hp}, Inv B pins σ' H' s' → (∀ b ∈ fp, H' b = none) → ∀ b ∈ fp, FpOk B pins H' b) (n0 : ∀ b ∈ fp, H b = none) (w0 : W 0 m0 H)
    (turn : ∀ j n H, W j n H → (J.stop j H ∧ Ed H) ∨ (J.go j H ∧ ∃ Nx : Hp → Prop, (∀ H', Nx H' → ∃ n', n' < n ∧ W (j + 1) n' H') ∧ ∀ x H', J.yld j H x H' → q.g x (wipe σ q.vs) H' fun σ3 H5 => wipe σ3 q.vs = wipe σ q.vs ∧ q.tt σ3 H5 fun b H6 => if b = true then inn σ3 H6 Nx else Nx H6))
    (hE : ∀ s' H', Inv B pins (wipe σ q.vs) H' s' → Ed H' → R (.ok .next) s') :
    codeAny (model B.prog B.w) B.A (.compLoop (.ListComp elt gs scope pos) k (.ref it) (.ref D) B.env) R s := by
  refine compLoopN hk rfl hnx (fun n z => ∃ j G, Inv B pins (wipe σ q.vs) G z ∧ tn j z.heap ∧ (∀ b ∈ fp, G b = none) ∧ W j n G) ?_ m0 ⟨0, H, I0, st0, n0, w0⟩
  rintro n z ⟨j, G, Iz, stz, nz, wz⟩
  rcases turn j n G wz with ⟨stop, ed⟩ | ⟨go, Nx, less, step⟩
  · refine thnF (T.done B rfl rfl rfl hc j _ z _ G (fun _ _ => False) Iz (fpo Iz nz) stz stop) fun r z1 ⟨er, I1⟩ => ?_
    rw [er]
    exact hE z1 G I1 ed
  · refine thnF (T.item B rfl rfl rfl hc j _ z _ G (fun _ _ => False) Iz (fpo Iz nz) stz go) fun r z1 ⟨u, er, q1⟩ => ?_
    rw [er]
    refine thnF q1 fun _ z2 ⟨x, G2, I2, rx, yx, st2, n2⟩ => ?_
    refine thnB hx (hg.run _ z2 _ G2 x u _ (I2.pinned (fpo I2 n2) (T.obj _ _ st2)) rx (step x G2 yx)) fun _ z3 ⟨σ3, G3, I3, w3, q3⟩ => ?_
    refine thnB hx (ht.run _ z3 σ3 G3 _ I3 q3) fun b z4 ⟨G4, I4, q4⟩ => ?_
    have back : ∀ z5 σ5 G5, Inv B (pins ++ pinsAt fp z2.heap) σ5 G5 z5 → σ5.length = σ3.length → (∀ (i : Nat) v, (wipe σ3 q.vs)[i]? = some (some v) → σ5[i]? = some (some v)) → Nx G5 → ∃ m, m < n ∧ ∃ i G', Inv B pins (wipe σ q.vs) G' z5 ∧ tn i z5.heap ∧ (∀ b ∈ fp, G' b = none) ∧ W i m G' := fun z5 σ5 G5 I5 hl hw nx => by
      obtain ⟨m, hm, w5⟩ := less G5 nx
      have pin : ∀ b ∈ fp, ∀ o, z2.heap.get? b = some o → z5.heap.get? b = some o ∧ G5 b = none := fun b hb o eo => by
        have y := I5.pin (b, o) (List.mem_append_right _ (List.mem_append_right _ (mem_pinsAt hb eo)))
        exact ⟨y.1, y.2.1⟩
      have Iw : Inv B pins (wipe σ q.vs) G5 z5 := I5.unpinned.weak (by rw [hl, ← w3, wipe_length]) fun i v ev => hw i v (by rw [w3]; exact ev)
      refine ⟨m, hm, j + 1, G5, Iw, T.keep _ _ _ st2 fun b hb o eo => (pin b hb o eo).1, fun b hb => ?_, w5⟩
      obtain ⟨o, eo, _⟩ := T.obj _ _ st2 b hb
      exact (pin b hb o eo).2
    cases b with
    | false => exact back z4 σ3 G4 I4 rfl (fun i v ev => (wipe_some ev).1) q4
    | true => exact hin _ σ3 G4 z4 Nx _ _ I4 q4 back
theorem nx_ok {env : Env} {gs : List Comprehension} {r : List ClX} {k : Nat} (h : gs.drop k = r.map ClX.c) (f : ∀ q ∈ r, ∀ x, foldedSetIterable q.iter env x = pure x) : ∀ g, gs[k]? = some g → g.is_async = 0 ∧ ∀ x, foldedSetIterable g.iter env x = pure x := fun g hg => by
  cases r with
  | nil =>
    rw [List.getElem?_eq_none (List.drop_eq_nil_iff.mp h)] at hg; cases hg
  | cons q2 r2 =>
    rw [(drop_cons (show gs.drop k = q2.c :: r2.map ClX.c from h)).1] at hg
    cases hg
    exact ⟨rfl, f q2 List.mem_cons_self⟩
theorem inner_ok {B : Cx} {elt : Expr} {te : TE} {gs : List Comprehension} {scope : Scope} {pos : Pos} {D : Addr} (hc : B.calm = true) (hx : ∀ v s, ¬ B.xe v s) (pe : PE B elt te) :
    ∀ (rest : List ClX) (k : Nat) (vs : List Nat) (pins : List (Addr × Obj)) (σ : L2.St) (H : Hp) (s : Shared) (Nx : Hp → Prop) (K : Shared → Prop) (E : Value → Shared → Prop), gs.drop (k + 1) = rest.map ClX.c → (∀ q ∈ rest, ClOk B q) → nest vs rest → Inv B pins σ H s → tIn te D rest σ H Nx →
      (∀ s' σ' H', Inv B pins σ' H' s' → σ'.length = σ.length → (∀ (j : Nat) v, (wipe σ vs)[j]? = some (some v) → σ'[j]? = some (some v)) → Nx H' → K s') →
      Body B.prog B.w B.A elt gs scope pos (.ref D) B.env k K E s
  | [], k, vs, pins, σ, H, s, Nx, K, E, hd, _, _, I, h, hK => by
    have hn : gs[k + 1]? = none := List.getElem?_eq_none (List.drop_eq_nil_iff.mp hd)
    unfold Body
    rw [hn]
    refine thnB hx (pe.run pins s σ H _ I h) fun z s1 ⟨y, H1, I1, r1, acc, hD, hz, nx⟩ => ?_
    exact app_ok (X := B) I1 hD hz r1 fun s2 I2 => hK s2 σ _ I2 rfl (fun j v e => (wipe_some e).1) nx
  | q :: r, k, vs, pins, σ, H, s, Nx, K, E, hd, hq, hn, I, h, hK => by
    obtain ⟨hk, hd2⟩ := drop_cons (show gs.drop (k + 1) = q.c :: r.map ClX.c from hd)
    have q0 := hq q List.mem_cons_self
    have hr : ∀ q2 ∈ r, ClOk B q2 := fun q2 h2 => hq q2 (List.mem_cons_of_mem _ h2)
    unfold Body
    rw [hk]
    show wpAny (model B.prog B.w) B.A (eval q.iter B.env) _ _ _
    refine thnB hx (q0.pi.run pins s σ H _ I h) fun _ _ h1 => thnB hx h1 fun _ s2 h2 => ?_
    obtain ⟨it, fp, tn, J, H2, rfl, I2, T, st, f, W, ⟨m, w⟩, turn⟩ := h2
    refine compStartN hk rfl ?_ (T.self B.A 0 _ _ _ st ?_) <;>
      exact loop_ok hc hx hk (nx_ok hd2 fun q2 h2 => (hr q2 h2).fs _) q0.pg q0.pt (fun pins σ H s Nx K E => inner_ok hc hx pe r (k + 1) q.vs pins σ H s Nx K E hd2 hr hn.2) T st (I2.weak (wipe_length _ _) (fun j v e => (wipe_some e).1)) (fun _ n b hb => ⟨n b hb, (f b hb).2⟩) (fun b hb => (f b hb).1) w turn
        fun s' H' I' nx => hK s' _ H' I' (wipe_length _ _) (fun j v e => wipe_sub hn.1 e) nx
/-! ### all clauses -/
def tLcN (c0 : ClX) (rest : List ClX) (te : TE) : TE := fun σ H Q => c0.wi σ H fun J H1 => ∀ D, H1 D = none → ∃ W : Nat → Nat → Hp → Prop, (∃ m, W 0 m (upd H1 D (.lst []))) ∧ ∀ i m H, W i m H →
  (J.stop i H ∧ Q (.ref D) H) ∨ (J.go i H ∧ ∃ Nx : Hp → Prop, (∀ H', Nx H' → ∃ m', m' < m ∧ W (i + 1) m' H') ∧ ∀ x H', J.yld i H x H' → c0.g x (wipe σ c0.vs) H' fun σ2 H2 => wipe σ2 c0.vs = wipe σ c0.vs ∧ c0.tt σ2 H2 fun b H3 =>
    if b = true then tIn te D rest σ2 H3 Nx else Nx H3)
section
variable {X : Cx} {elt : Expr} {c0 : ClX} {rest : List ClX} {scope : Scope} {own : List (Str × Nat)} {te : TE}
/-- what is asked of the parts, in any block -/
structure LcOk (X : Cx) (elt : Expr) (c0 : ClX) (rest : List ClX) (scope : Scope) (own : List (Str × Nat)) (te : TE) : Prop where
  hc : X.calm = true
  hN : X.N.Nodup
  hi : PI X c0.tg c0.iter c0.wi
  ok : BlkOk X.N X.env.scope scope own
  hv : c0.vs = own.map (·.2)
  ne : nest c0.vs rest
  hs : ∀ x, foldedSetIterable c0.iter X.env x = pure x
  blk : ∀ (s : Shared) (H : Hp) (C : Addr) (cl : List (Str × Addr)) (fp : List Addr), PG (X.blk s H scope (compEnvC scope cl C X.env) fp) c0.tg c0.g ∧ PTs (X.blk s H scope (compEnvC scope cl C X.env) fp) c0.ifs c0.tt ∧ PE (X.blk s H scope (compEnvC scope cl C X.env) fp) elt te ∧
    ∀ q ∈ rest, ClOk (X.blk s H scope (compEnvC scope cl C X.env) fp) q
theorem lcN_core {pins : List (Addr × Obj)} {s : Shared} {σ : L2.St} {H : Hp} {Q : VK} {pos pos' : Pos} {use : Option (Value → Sem Unit)} {Qf : Value → Shared → Prop} (L : LcOk X elt c0 rest scope own te) (I : Inv X pins σ H s) (h : tLcN c0 rest te σ H Q)
    (hRR : ∀ D C s' m H', Inv X pins σ H' s' → Q (.ref D) H' → s'.heap.Ns C m → FpOk X pins H' C → compPost (model X.prog X.w) X.A X.xe use Qf (.ref D) C (.ok .next) s') :
    wpAny (model X.prog X.w) X.A (comprehension (.ListComp elt (c0.c :: rest.map ClX.c) scope pos) scope X.env pos' (newList []) false (eval c0.iter X.env) use) Qf X.xe s := by
  obtain ⟨hc, hN, hi, ok, hv, ne, hs, blk⟩ := L
  have cells : ∀ y ∈ scope.names, y.2 = .free → ∃ c, X.env.cells.lookup y.1 = some c := fun y hy e => I.ok.has _ ((ok.free y hy e).elim .inl .inr)
  refine wpAny_comprehension_free (use := use) rfl hs (closure_ok cells) ok.kind (fun y hy e => by rw [ok.uniq y hy, e]) (thn (hi.run pins s σ H _ I h) fun _ _ h1 => thn h1 fun _ s2 h2 => ?_)
  obtain ⟨it, fp, tn, J, H2, rfl, I2, T, st2, f2, q⟩ := h2
  refine wpAny_newObj_type (newEnv_comp ?_) (by show 0 ≤ sizeLine; decide)
  obtain ⟨D, hD⟩ : ∃ D, s2.heap.objs.size = D := ⟨_, rfl⟩
  rw [hD]
  obtain ⟨W, ⟨m0, w0⟩, turn⟩ := q D (I2.hok.fresh (Nat.le_of_eq hD))
  -- with the new list
  obtain ⟨s3, e3⟩ : ∃ z : Shared, z = { s2 with heap := s2.heap.push { cls := .type "list", data := .seq ([] : List Value).toArray } } := ⟨_, rfl⟩
  have old : ∀ b o, s2.heap.get? b = some o → s3.heap.get? b = some o := fun b o e => by rw [e3]; exact Heap.get?_push_of_some _ e
  have big : s2.heap.objs.size < s3.heap.objs.size := by rw [e3]; show _ < (s2.heap.push _).objs.size; rw [Heap.size_push]; exact Nat.lt_succ_self _
  obtain ⟨H3, eH⟩ : ∃ z : Hp, z = upd H2 D (.lst []) := ⟨_, rfl⟩
  have I3 : Inv X pins σ H3 s3 := by
    rw [eH, e3]
    exact I2.laid (t' := s2.toks) (fun b o e => Heap.get?_push_of_some _ e) (Nat.le_of_eq hD) ⟨Nat.zero_le _, [], 0, .nil, by rw [← hD]; exact Heap.get?_push_size _ rfl⟩
  have f3 : ∀ b ∈ fp, FpOk X pins H3 b ∧ b < s3.heap.objs.size := fun b hb => by
    obtain ⟨o, eo, _⟩ := T.obj _ _ st2 b hb
    have lt := Heap.lt_size eo
    have g := f2 b hb
    refine ⟨⟨?_, g.2⟩, Nat.lt_trans lt big⟩
    rw [eH, upd_ne (fun z => Nat.lt_irrefl _ (by rw [z, ← hD] at lt; exact lt))]
    exact g.1
  rw [← eH] at w0
  have I4 := block_start I3 ok hN f3
  obtain ⟨bg, bt, be, br⟩ := blk s3 H3 s3.heap.objs.size (cellsFrom (s3.heap.objs.size + 1) scope.names (cloFrom X.env.cells scope.names [])) fp
  show codeAny _ _ (.compStart (.ListComp elt (c0.c :: rest.map ClX.c) scope pos) 0 (.ref it) (.ref D) (compEnvC scope (cellsFrom (_ + 1) scope.names (cloFrom X.env.cells scope.names [])) _ X.env)) (compPost (model X.prog X.w) X.A X.xe use Qf (.ref D) _) _
  rw [← e3]
  change codeAny _ _ (.compStart _ 0 _ _ (compEnvC scope (cellsFrom (s3.heap.objs.size + 1) scope.names (cloFrom X.env.cells scope.names [])) s3.heap.objs.size X.env)) (compPost _ _ _ _ _ _ s3.heap.objs.size) _
  obtain ⟨ce, ec⟩ : ∃ z, z = compEnvC scope (cellsFrom (s3.heap.objs.size + 1) scope.names (cloFrom X.env.cells scope.names [])) s3.heap.objs.size X.env := ⟨_, rfl⟩
  have cl : ce.locals = s3.heap.objs.size := by rw [ec]; rfl
  rw [← ec] at I4 bg bt be br ⊢
  have st4 : tn 0 (pushCells (s3.heap.push { cls := .type "dict", data := .dict #[] }) scope.names) := T.keep _ _ _ st2 fun b _ o e => pushCells_keeps _ _ _ _ (Heap.get?_push_of_some _ (old b o e))
  refine codeAny_compStart_list ?_ (T.self X.A 0 _ _ _ st4 ?_) <;>
    refine loop_ok (B := X.blk s3 H3 scope ce fp) (q := c0) (Ed := fun G => Q (.ref D) G) (inn := tIn te D rest) hc (fun _ _ z => z) rfl (nx_ok rfl fun q2 h2 => (br q2 h2).fs _) bg bt (fun pins σ G s Nx K E => inner_ok (B := X.blk s3 H3 scope ce fp) hc (fun _ _ z => z) be rest 0 c0.vs pins σ G s Nx K E rfl br ne) T st4 (by rw [hv]; exact I4)
      (fun I' n b hb => ⟨n b hb, (I'.ok.exf b hb).1, I'.ok.exfs b hb, .inl hb, fun x c e => (I'.ok.exf b hb).2 x c e, fun p hp => absurd (show p ∈ ([] : List (Addr × Obj)) ++ [] from hp) (by simp)⟩) (fun b hb => (f3 b hb).1.1) w0 turn fun s6 G I6 qq => ?_
  all_goals
    have nC : G s3.heap.objs.size = none := by rw [← cl]; exact I6.free
    obtain ⟨m, hn, _⟩ := I6.loc
    refine hRR D _ s6 m G (I3.call' (ch := fp) I6.os I6.base I6.hok I6.bare fun b hb => ?_) qq (by rw [← cl]; exact hn) (I3.fpOk (Nat.le_refl _) nC)
    obtain ⟨_, g1, g2, g3, g4, g5⟩ := (f3 b hb).1
    exact ⟨g3, g1, g4, g5⟩
/-- as a value -/
theorem pe_lcN {pos : Pos} (L : LcOk X elt c0 rest scope own te) : PE X (.ListComp elt (c0.c :: rest.map ClX.c) scope pos) (tLcN c0 rest te) := by
  constructor
  intro pins s σ H Q I h
  rw [eval_ListComp]
  refine lcN_core L I h fun D C s1 m H1 I1 q hn ⟨f0, f1, f2, f3, f4, f5⟩ => ⟨m, hn, fun h2 sb => ?_⟩
  exact ⟨.ref D, H1, I1.turned (t' := s1.toks) (fun b o hb e => (sb.2 b hb).trans e) f0 f1 f3 f4 f5, rfl, q⟩
/-- name = [..] -/
theorem ps_setLcN {i : Nat} {y : Str} {py pos spos : Pos} (L : LcOk X elt c0 rest scope own te) (hy : X.N[i]? = some y) (hyl : X.env.scope.names.lookup y = some .local)
    (hsw : swapsWith (.ListComp elt (c0.c :: rest.map ClX.c) scope pos) (some (.Name y py)) spos.line X.env = pure true) : PS X (.Assign [.Name y py] (.ListComp elt (c0.c :: rest.map ClX.c) scope pos) spos) (tAsg (tLcN c0 rest te) (gName i)) := by
  constructor
  intro pins s σ H D0 I h
  rw [exec_Assign_Name_used _ _ _ _ hsw]
  refine wpAny_bind (wpAny_standAt (wpAny_bind ?_))
  have h : tLcN c0 rest te σ H (fun x H1 => gName i x σ H1 D0.nx) := h
  refine wpAny_bind (thn (lcN_core (Qf := fun _ s' => SP X pins D0 .next s') L I h fun D C s1 m H1 I1 q hn ⟨f0, f1, f2, f3, f4, f5⟩ => ?_) fun _ s' hq => wpAny_pure (wpAny_pure hq))
  show wpAny _ _ (assign (.Name y py) X.env (.ref D)) _ _ _
  refine wpAny_assign_Name (store_ok2 (v := V.ref D) I1 L.hN hy (.inl hyl) rfl (fun s2 I2 ⟨a, sb, ha⟩ => ?_) (.inr hyl))
  have na : C ≠ a := ha.elim (fun z => by rw [z]; exact f1) fun z e => f4 y a z e.symm
  refine ⟨m, hn.sameBut sb na, fun _ sb3 => ⟨_, H1, I2.turned (t' := s2.toks) (fun b o hb e => (sb3.2 b hb).trans e) f0 f1 f3 f4 f5, q⟩⟩
end
end Jm

set_option Elab.async false
set_option linter.all false
set_option maxRecDepth 100000
set_option maxHeartbeats 4000000
/-! Jm, part Lb: list comprehensions of any number of clauses, their reading: the new list is an object of the store from its beginning. -/
noncomputable section
namespace Jm
open PySem PySem.Spec PyProof.Rows L2
structure LcC where
  f : E Itn
  vs : List Nat
  g : G
  t : E Bool
def lcG (it : Itn) (g : G) (t : E Bool) (body : En → Sto → Res Unit) (n : En) : Nat → Nat → Sto → Res Unit
  | 0, _, _ => .bad
  | m + 1, i, S => match it.next i S with
    | none => .bad
    | some none => .ok () S
    | some (some d) => rbind (g d n S) fun n1 S1 => rbind (t n1 S1) fun b S2 => if b = true then rbind (body n1 S2) fun _ S3 => lcG it g t body n m (i + 1) S3 else lcG it g t body n m (i + 1) S2
def lcPut (l : Nat) (y : D) (S : Sto) : Res Unit := match lstAt S l with
  | some acc => if acc.length < LINE then .ok () (S.set l (.lst (acc ++ [y]))) else .bad
  | none => .bad
def lcIn (l : Nat) (fe : E D) : List LcC → En → Sto → Res Unit
  | [], n, S => rbind (fe n S) fun y S3 => lcPut l y S3
  | c :: r, n, S => rbind (c.f n S) fun it S1 => lcG it c.g c.t (lcIn l fe r) (wipeD n c.vs) FUEL 0 S1
def eLcN (c0 : LcC) (rest : List LcC) (fe : E D) : E D := eBnd c0.f fun it n S => rbind (nox (lcG it c0.g c0.t (lcIn S.length fe rest) (wipeD n c0.vs) FUEL 0 (S ++ [.lst []]))) fun _ S' => .ok (.loc S.length) S'
section
variable {X : Cx} {fa : Gl0} {W : WX}
theorem lcG_ok {R : RC} {it : Itn} {J : It} {g : G} {vs : List Nat} {t : E Bool} {body : En → Sto → Res Unit} {n : En} {σ : L2.St} {p1 : List Addr} {H1 : Hp} {S1 Sf : Sto} {Ed : Hp → Prop} {inn : L2.St → Hp → (Hp → Prop) → Prop}
    (hJ : ItOk R it J p1 H1) (rs1 : RS R p1 S1 H1) (re1 : RE R p1 (wipeD n vs) (L2.wipe σ vs) H1) (hr : lcG it g t body (wipeD n vs) FUEL 0 S1 = .ok () Sf)
    (hin : ∀ p2 H2 S2 n2 σ2 S3 Nx, p1 <+: p2 → Tm p1 H1 p2 H2 → RS R p2 S2 H2 → RE R p2 n2 σ2 H2 → body n2 S2 = .ok () S3 → (∀ p3 H3, p2 <+: p3 → Tm p2 H2 p3 H3 → RS R p3 S3 H3 → Nx H3) → inn σ2 H2 Nx)
    (hE : ∀ p2 H2, p1 <+: p2 → Tm p1 H1 p2 H2 → RS R p2 Sf H2 → Ed H2) :
    ∃ W1 : Nat → Nat → Hp → Prop, (∃ m, W1 0 m H1) ∧ ∀ j k H, W1 j k H → (J.stop j H ∧ Ed H) ∨ (J.go j H ∧ ∃ Nx : Hp → Prop, (∀ H', Nx H' → ∃ k', k' < k ∧ W1 (j + 1) k' H') ∧ ∀ x H', J.yld j H x H' → xG R W0 vs g x (L2.wipe σ vs) H' fun σ3 H5 => L2.wipe σ3 vs = L2.wipe σ vs ∧ xT R W0 t σ3 H5 fun b H6 =>
      if b = true then inn σ3 H6 Nx else Nx H6) := by
  refine ⟨fun i m H' => ∃ p' S', p1 <+: p' ∧ Tm p1 H1 p' H' ∧ RS R p' S' H' ∧ lcG it g t body (wipeD n vs) m i S' = .ok () Sf, ⟨FUEL, p1, S1, List.prefix_refl _, Tm.refl, rs1, hr⟩, ?_⟩
  rintro i m H2 ⟨p2, S2, hp2, t2, rs2, h2⟩
  cases m with
  | zero => cases h2
  | succ m =>
    have h2 : (match it.next i S2 with
      | none => .bad
      | some none => .ok () S2
      | some (some d) => rbind (g d (wipeD n vs) S2) fun n1 S1 => rbind (t n1 S1) fun b S2 => if b = true then rbind (body n1 S2) fun _ S3 => lcG it g t body (wipeD n vs) m (i + 1) S3 else lcG it g t body (wipeD n vs) m (i + 1) S2) = Res.ok () Sf := h2
    cases e : it.next i S2 with
    | none => rw [e] at h2; cases h2
    | some o =>
      rw [e] at h2
      cases o with
      | none =>
        have z := hJ.stop p2 H2 S2 hp2 t2 rs2 i e
        cases h2
        exact .inl ⟨z, hE p2 H2 hp2 t2 rs2⟩
      | some d =>
        obtain ⟨hgo, hy⟩ := hJ.item p2 H2 S2 hp2 t2 rs2 i d e
        refine .inr ⟨hgo, fun H' => ∃ p' S', p1 <+: p' ∧ Tm p1 H1 p' H' ∧ RS R p' S' H' ∧ lcG it g t body (wipeD n vs) m (i + 1) S' = .ok () Sf, fun H' q => ⟨m, Nat.lt_succ_self _, q⟩, fun x H3 y => ?_⟩
        obtain ⟨t3, rs3, rv3⟩ := hy x H3 y
        obtain ⟨n1, S4, eg, h3⟩ := rbind_is h2
        obtain ⟨b, S5, et, h4⟩ := rbind_is h3
        refine ⟨p2, wipeD n vs, S2, d, rs3, re1.mono hp2 (t2.trans t3), rv3, ?_⟩
        rw [eg]
        intro p4 H4 hp4 t4 rs4 s4 re4 hw4
        refine ⟨by rw [hw4, wipe_wipe], p4, n1, S4, rs4, re4, ?_⟩
        rw [et]
        intro p5 H5 hp5 t5 rs5
        have T5 := t2.trans ((t3.trans t4).trans t5)
        have P5 := hp2.trans (hp4.trans hp5)
        cases b with
        | false => exact ⟨p5, S5, P5, T5, rs5, h4⟩
        | true =>
          obtain ⟨_, S6, eb, h5⟩ := rbind_is h4
          exact hin p5 H5 S5 n1 s4 S6 _ P5 T5 rs5 (re4.mono hp5 t5) eb fun p6 H6 hp6 t6 rs6 => ⟨p6, S6, P5.trans hp6, T5.trans t6, rs6, h5⟩
/-- a clause's readings -/
def clx (R : RC) (W : WX) (a : Comprehension) (c : LcC) : ClX := ⟨a.target, a.iter, a.ifs, xI R W c.f, xG R W0 c.vs c.g, xT R W0 c.t, c.vs⟩
def clxs (R : RC) : List Comprehension → List LcC → List ClX
  | a :: as, c :: cs => clx R W0 a c :: clxs R as cs
  | _, _ => []
theorem tIn_ok {R : RC} {fe : E D} {l : Nat} {Dd : Addr} : ∀ (as : List Comprehension) (r : List LcC), as.length = r.length → ∀ (n : En) (σ : L2.St) (p : List Addr) (S Sf : Sto) (H : Hp) (Nx : Hp → Prop), RS R p S H → RE R p n σ H → p[l]? = some Dd → lcIn l fe r n S = .ok () Sf →
    (∀ p' H', p <+: p' → Tm p H p' H' → RS R p' Sf H' → Nx H') → tIn (xE R W0 fe) Dd (clxs R as r) σ H Nx
  | [], [], _, n, σ, p, S, Sf, H, Nx, rs, re, hl, h, hN => by
    obtain ⟨y, S1, e1, h1⟩ := rbind_is (show rbind (fe n S) (fun y S3 => lcPut l y S3) = .ok () Sf from h)
    refine ⟨p, n, S, rs, re, ?_⟩
    rw [e1]
    intro p1 H1 hp1 t1 rs1 v rv
    have hl1 := pre_get hp1 hl
    unfold lcPut at h1
    split at h1
    · rename_i acc ea
      split at h1
      · rename_i hlen
        cases h1
        obtain ⟨us, g1, g2⟩ := rs1.list hl1 ea
        have eo : S1[l]? = some (.lst acc) := by
          unfold lstAt at ea
          split at ea
          · rename_i e; cases ea; exact e
          · cases ea
        have hD := List.mem_of_getElem? hl1
        have tm : Tm p1 H1 p1 (upd H1 Dd (.lst (us ++ [v]))) := Tm.mut hD (nfz_l g1)
        refine ⟨us, g1, by rw [← g2.length, line_eq]; exact hlen, hN p1 _ hp1 (t1.trans tm) (rs1.put eo hl1 (nfz_l g1) ⟨us ++ [v], upd_same, (g2.append (.cons rv .nil)).mono (List.prefix_refl _) tm⟩)⟩
      · cases h1
    · cases h1
  | a :: as, c :: r, hlen, n, σ, p, S, Sf, H, Nx, rs, re, hl, h, hN => by
    obtain ⟨it, S1, e1, h1⟩ := rbind_is (show rbind (c.f n S) (fun it S1 => lcG it c.g c.t (lcIn l fe r) (wipeD n c.vs) FUEL 0 S1) = .ok () Sf from h)
    refine ⟨p, n, S, rs, re, ?_⟩
    rw [e1]
    intro p1 H1 hp1 t1 rs1 J hJ
    exact lcG_ok hJ rs1 ((re.mono hp1 t1).wipes c.vs) h1 (fun p2 H2 S2 n2 σ2 S3 Nx2 hp2 t2 rs2 re2 hb hn2 => tIn_ok as r (Nat.succ.inj hlen) n2 σ2 p2 S2 S3 H2 Nx2 rs2 re2 (pre_get hp2 (pre_get hp1 hl)) hb hn2) fun p2 H2 hp2 t2 rs2 => hN p2 H2 (hp1.trans hp2) (t1.trans t2) rs2
theorem lcN_in {a0 : Comprehension} {as : List Comprehension} {c0 : LcC} {r : List LcC} {fe : E D} {s : L2.St} {H : Hp} {Q : VK} (hlen : as.length = r.length) (h : xE (rc X fa) W (eLcN c0 r fe) s H Q) : tLcN (clx (rc X fa) W a0 c0) (clxs (rc X fa) as r) (xE (rc X fa) W0 fe) s H Q := by
  obtain ⟨p, n, S, rs, re, h⟩ := h
  refine ⟨p, n, S, rs, re, (Aft.bind h).imp (fun it p1 S1 H1 hp1 t1 rs1 h1 J hJ Dd hD => ?_) fun _ _ _ w => w⟩
  obtain ⟨Sf, hr, hfin⟩ : ∃ Sf, lcG it c0.g c0.t (lcIn S1.length fe r) (wipeD n c0.vs) FUEL 0 (S1 ++ [.lst []]) = .ok () Sf ∧ ∀ p' H', p1 <+: p' → Tm p1 H1 p' H' → RS (rc X fa) p' Sf H' → ∀ v, RV (rc X fa) p' H' (.loc S1.length) v → Q v H' := by
    have h1 : Aft (rc X fa) p1 H1 (rbind (nox (lcG it c0.g c0.t (lcIn S1.length fe r) (wipeD n c0.vs) FUEL 0 (S1 ++ [.lst []]))) fun _ S' => .ok (.loc S1.length) S') (fun d p' S' H' => ∀ v, RV (rc X fa) p' H' d v → Q v H') (fun c dd H' => W c dd s H') := h1
    cases e : lcG it c0.g c0.t (lcIn S1.length fe r) (wipeD n c0.vs) FUEL 0 (S1 ++ [.lst []]) with
    | ok u Sf => rw [e] at h1; exact ⟨Sf, rfl, h1⟩
    | exc c fs Sf => rw [e] at h1; exact h1.elim
    | bad => rw [e] at h1; exact h1.elim
  have tD : Tm p1 H1 (p1 ++ [Dd]) (upd H1 Dd (.lst [])) := Tm.all hD
  have rD : RS (rc X fa) (p1 ++ [Dd]) (S1 ++ [.lst []]) (upd H1 Dd (.lst [])) := rs1.new hD ⟨[], upd_same, .nil⟩
  have pD := pre_snoc p1 Dd
  have hl : (p1 ++ [Dd])[S1.length]? = some Dd := by rw [← rs1.len]; simp
  exact lcG_ok (hJ.later pD tD) rD (((re.mono hp1 t1).mono pD tD).wipes c0.vs) hr (fun p2 H2 S2 n2 σ2 S3 Nx2 hp2 t2 rs2 re2 hb hn2 => tIn_ok as r hlen n2 σ2 p2 S2 S3 H2 Nx2 rs2 re2 (pre_get hp2 hl) hb hn2)
    fun p2 H2 hp2 t2 rs2 => hfin p2 H2 (pD.trans hp2) (tD.trans t2) rs2 _ (.loc (pre_get hp2 hl))
end
end Jm

set_option Elab.async false
set_option linter.all false
set_option maxRecDepth 100000
set_option maxHeartbeats 4000000
/-! Jm, part Of: more primitives and forms: the least of data, < of data, {}, tuple(range(n)), three names at once, comprehensions of more clauses. -/
noncomputable section
namespace Jm
open PySem PySem.Spec PyProof.Rows L2 PySem.W PySem.SeqAt
/-- the first that knows -/
def orP (g1 g2 : Prim) : Prim := fun ds S => match g1 ds S with
  | some r => some r
  | none => g2 ds S
def or2 (g1 g2 : D → D → Sto → Option (D × Sto)) : D → D → Sto → Option (D × Sto) := fun a b S => match g1 a b S with
  | some r => some r
  | none => g2 a b S
section
variable {X : Cx} {fa : Gl0} {W : WX} {e a b c : Expr} {pos : Pos}
theorem call_or {f : Value} {g1 g2 : Prim} (h1 : CallR X f (xN (rc X fa) g1)) (h2 : CallR X f (xN (rc X fa) g2)) : CallR X f (xN (rc X fa) (orP g1 g2)) := by
  intro pins s σ H xs us Q I rr ⟨p, S, ds, d, S', rs, rv, e, q⟩
  unfold orP at e
  cases z : g1 ds S with
  | some r => rw [z] at e; cases e; exact h1 pins s σ H xs us Q I rr ⟨p, S, ds, d, S', rs, rv, z, q⟩
  | none => rw [z] at e; exact h2 pins s σ H xs us Q I rr ⟨p, S, ds, d, S', rs, rv, e, q⟩
theorem op_or {f : Value → Value → Sem Value} {g1 g2 : D → D → Sto → Option (D × Sto)} (h1 : OpR X f (x2 (rc X fa) g1)) (h2 : OpR X f (x2 (rc X fa) g2)) : OpR X f (x2 (rc X fa) (or2 g1 g2)) := by
  intro pins s σ H x y v u Q I rx ry ⟨p, S, d1, d2, d, S', rs, r1, r2, e, q⟩
  unfold or2 at e
  cases z : g1 d1 d2 S with
  | some r => rw [z] at e; cases e; exact h1 pins s σ H x y v u Q I rx ry ⟨p, S, d1, d2, d, S', rs, r1, r2, z, q⟩
  | none => rw [z] at e; exact h2 pins s σ H x y v u Q I rx ry ⟨p, S, d1, d2, d, S', rs, r1, r2, e, q⟩
/-! ### < of data -/
def notNone : PyData → Bool
  | .none => false
  | _ => true
theorem not_none {d : PyData} (h : notNone d = true) : d ≠ .none := fun z => by rw [z] at h; cases h
def ltTD (x y : D) (S : Sto) : Option (D × Sto) := match pyV S 30 x, pyV S 30 y with
  | some a, some b => if (alike a b && notNone a) = true then some (.bl (dataLt a b), S) else none
  | _, _ => none
theorem op_ltT (hu : X.A.units + 65 < cLine) : OpR X (compareOp .Lt) (x2 (rc X fa) ltTD) := by
  intro pins s σ H x y v u Q I rx ry ⟨p, S, d1, d2, d, S', rs, r1, r2, e, q⟩
  unfold ltTD at e
  split at e
  · rename_i a b ea eb
    split at e
    · rename_i hh
      cases e
      obtain ⟨ha, hn⟩ := Bool.and_eq_true_iff.mp hh
      have h1 := pyV_ok rs 30 _ _ _ r1 ea
      have h2 := pyV_ok rs 30 _ _ _ r2 eb
      obtain ⟨as, ra⟩ := Dp.reads I _ _ _ h1.dp rx
      obtain ⟨bs, rb⟩ := Dp.reads I _ _ _ h2.dp ry
      have := h1.dep
      exact lt_data ra rb ha (not_none hn) (by omega) ⟨.bl _, H, I, rfl, at_once rs q (.bl _)⟩
    · cases e
  · cases e
def ltX : D → D → Sto → Option (D × Sto) := or2 ltD ltTD
def cmpX : CmpOp → D → D → Sto → Option (D × Sto)
  | .Lt => ltX
  | op => cmpD op
theorem op_cmpX (hu : X.A.units + 65 < cLine) (op : CmpOp) : OpR X (compareOp op) (x2 (rc X fa) (cmpX op)) := by
  cases op with
  | Lt => exact op_or op_ltJ (op_ltT hu)
  | _ => exact op_cmpD hu _
/-! ### min of data -/
def shM : List Sh := .a .i :: shs
def shOf (ys : List PyData) : Option Sh := shM.find? fun h => ys.all (fits h)
theorem shOf_ok {ys : List PyData} {h : Sh} (e : shOf ys = some h) : ys.all (fits h) = true := by
  have := List.find?_some e
  exact this
theorem fits_nn {h : Sh} {d : PyData} (f : fits h d = true) : d ≠ .none := fun z => by
  subst z
  cases h <;> cases f
def minTD : Prim := fun ds S => match ds with
  | [.loc l] => match lstAt S l with
    | some xs => match allSome (xs.map (pyV S 30)) with
      | some (y :: ys) => (shOf (y :: ys)).map fun h => (ofSh h (minD y ys), S)
      | _ => none
    | none => none
  | [a, b] => match pyV S 30 a, pyV S 30 b with
    | some x, some y => (shOf [x, y]).map fun h => (if dataLt y x = true then b else a, S)
    | _, _ => none
  | _ => none
theorem alike_of {ys : List PyData} {h : Sh} (f : ys.all (fits h) = true) : AlikeAll ys :=
  ⟨fun x hx y hy => fits_alike h x y (List.all_eq_true.mp f x hx) (List.all_eq_true.mp f y hy), fun x hx => fits_nn (List.all_eq_true.mp f x hx)⟩
theorem minD_mem (y : PyData) : ∀ ys : List PyData, minD y ys ∈ y :: ys := by
  intro ys
  unfold minD
  induction ys generalizing y with
  | nil => simp
  | cons z ys ih =>
    rw [List.foldl_cons]
    have := ih (if dataLt z y = true then z else y)
    rcases List.mem_cons.mp this with e | e
    · rw [e]
      split <;> simp
    · exact List.mem_cons_of_mem _ (List.mem_cons_of_mem _ e)
theorem reads_all {K : Frag} {h : Heap} {H : Hp} (rd : ∀ (d : PyData) (v : V) (u : Value), Dp K H v d → RelV v u → ∃ as, Reads h u d as) : ∀ {vs : List V} {us : List Value} {ys : List PyData}, Vals vs us → DpAll K H vs ys → ∃ as, ReadsAll h us ys as
  | _, _, _, .nil, .nil => ⟨_, .nil⟩
  | _, _, _, .cons g gg, .cons r rr => by
    obtain ⟨as, q⟩ := rd _ _ _ r g
    obtain ⟨bs, qs⟩ := reads_all rd gg rr
    exact ⟨_, .cons q qs⟩
theorem vals_at {vs : List V} {us : List Value} (g : Vals vs us) {i : Nat} {u : Value} (e : us[i]? = some u) : ∃ v, vs[i]? = some v ∧ RelV v u := by
  induction g generalizing i with
  | nil => simp at e
  | cons r _ ih =>
    cases i with
    | zero => simp at e; subst e; exact ⟨_, rfl, r⟩
    | succ i => exact ih (by simpa using e)
theorem allSome_at {A : Type} : ∀ {l : List (Option A)} {k : List A}, allSome l = some k → ∀ i : Nat, l[i]? = (k[i]?).map some
  | [], _, e, i => by cases e; simp
  | o :: l, _, e, i => by
    obtain ⟨a, k, e1, e2, rfl⟩ := allSome_cons e
    cases i with
    | zero => simp [e1]
    | succ i => simpa using allSome_at e2 i
theorem call_minT (hc : X.calm = true) (hu : X.A.units + 65 < cLine) : CallR X (.builtin "min") (xN (rc X fa) minTD) := by
  intro pins s σ H xs us Q I rr ⟨p, S, ds, d, S', rs, rv, e, q⟩
  unfold minTD at e
  split at e
  · split at e
    · rename_i dl e1
      split at e
      · rename_i y ys e2
        obtain ⟨h, eh, e⟩ := Option.map_eq_some_iff.mp e
        cases e
        cases rv with
        | cons r1 r2 =>
          cases r2
          cases r1 with
          | loc hl =>
            obtain ⟨vs, g1, g2⟩ := rs.list hl e1
            obtain ⟨its, rvs, pl, hz⟩ := I.list (.of g1)
            rw [Vals.ref1 rr]
            have f := shOf_ok eh
            obtain ⟨o1, o2, o3⟩ := all_ok (pyV_ok rs 30) dl vs (y :: ys) g2 e2
            obtain ⟨as, ra⟩ := reads_all (fun d v u => Dp.reads I d v u) rvs o1
            refine min_list_data (I.ok.hd hc) pl.isList (by simpa using ra) (alike_of f) (by omega) fun i v h' tk bs hv rd kp => ?_
            obtain ⟨v0, w1, w2⟩ := vals_at rvs (show its[i]? = some v by simpa using hv)
            obtain ⟨d0, w3, w4⟩ := g2.getv w1
            have w5 : ((dl.map (pyV S 30))[i]?) = (((y :: ys)[i]?).map some) := allSome_at e2 i
            rw [List.getElem?_map, w3] at w5
            obtain ⟨y0, w6, w7⟩ := Option.map_eq_some_iff.mp w5.symm
            have w7 : pyV S 30 d0 = some y0 := w7.symm
            have o0 := pyV_ok rs 30 _ _ _ w4 w7
            obtain ⟨cs, rd0⟩ := Dp.reads I _ _ _ o0.dp w2
            have mm := minD_mem y ys
            have eq : y0 = minD y ys := alike_unique _ _ _ _ _ ((alike_of f).1 _ (List.mem_of_getElem? w6) _ mm) (Reads.keeps kp rd0) rd
            subst eq
            have ed : d0 = ofSh h (minD y ys) := of_one h 30 d0 _ (List.all_eq_true.mp f _ mm) w7
            exact ⟨v0, H, I.kept kp, w2, at_once rs q (by rw [← ed]; exact w4)⟩
      · cases e
    · cases e
  · rename_i a b _
    split at e
    · rename_i x y ex ey
      obtain ⟨h, eh, e⟩ := Option.map_eq_some_iff.mp e
      cases e
      cases rv with
      | cons r1 r2 => cases r2 with
        | cons r2 r3 =>
          cases r3
          have f := shOf_ok eh
          have h1 := pyV_ok rs 30 _ _ _ r1 ex
          have h2 := pyV_ok rs 30 _ _ _ r2 ey
          obtain ⟨u1, u2, rfl, g1, g2⟩ := vals2 rr
          obtain ⟨as, ra⟩ := Dp.reads I _ _ _ h1.dp g1
          obtain ⟨bs, rb⟩ := Dp.reads I _ _ _ h2.dp g2
          have dp : PyData.depthAll [x, y] ≤ 30 := by
            have := h1.dep
            have := h2.dep
            show max x.depth (max y.depth 0) ≤ 30
            omega
          refine min_two_data (I.ok.hd hc) ra rb (alike_of f) (by omega) fun h' tk kp => ?_
          by_cases c : dataLt y x = true
          · rw [if_pos c] at q ⊢
            exact ⟨_, H, I.kept kp, g2, at_once rs q r2⟩
          · rw [if_neg c] at q ⊢
            exact ⟨_, H, I.kept kp, g1, at_once rs q r1⟩
    · cases e
  · cases e
/-! min, max of a tuple of ints -/
theorem reads_ints {h : Heap} : ∀ {ns : List Int} {us : List Value}, Vals (ns.map V.int) us → ReadsAll h us (ns.map PyData.int) []
  | [], _, .nil => .nil
  | n :: ns, _, .cons r rs => by
    obtain ⟨t, rfl⟩ := r
    exact .cons (as := []) (bs := []) (.int n t) (reads_ints rs)
theorem depth_ints : ∀ ns : List Int, PyData.depthAll (ns.map PyData.int) = 0
  | [] => rfl
  | n :: ns => by
    show max 0 (PyData.depthAll (ns.map PyData.int)) = 0
    rw [depth_ints ns]; rfl
theorem alike_ints (ns : List Int) : AlikeAll (ns.map PyData.int) := alike_of (h := .i) (by
  rw [List.all_eq_true]
  intro x hx
  obtain ⟨i, _, rfl⟩ := List.mem_map.mp hx
  rfl)
def pickU (f : Int → Int → Int) : Prim := fun ds S => match ds with
  | [.tup xs] => match asInts xs with
    | some (n :: ns) => some (.int (ns.foldl f n), S)
    | _ => none
  | _ => none
theorem pickU_cases {f : Int → Int → Int} {ds : List D} {d : D} {S S' : Sto} (h : pickU f ds S = some (d, S')) : S' = S ∧ ∃ xs n ns, ds = [.tup xs] ∧ asInts xs = some (n :: ns) ∧ d = .int (ns.foldl f n) := by
  unfold pickU at h
  split at h
  · split at h
    · cases h; exact ⟨rfl, _, _, _, rfl, by assumption, rfl⟩
    · cases h
  · cases h
theorem call_minU (hc : X.calm = true) (hu : X.A.units + 65 < cLine) : CallR X (.builtin "min") (xN (rc X fa) (pickU min)) := by
  intro pins s σ H xs us Q I rr ⟨p, S, ds, d, S', rs, rv, e, q⟩
  obtain ⟨rfl, ys, n, ns, rfl, e1, rfl⟩ := pickU_cases e
  cases rv with
  | cons r1 r2 =>
    cases r2
    cases r1 with
    | @tup a vs _ s1 v1 =>
      have g3 := asInts_ok v1 e1
      subst g3
      obtain ⟨its, rvs, pl, hz⟩ := I.tuple s1.sq
      rw [Vals.ref1 rr]
      refine min_tuple_data (I.ok.hd hc) (show s.heap.IsTuple a its.toArray from pl) (by simpa using reads_ints rvs) (alike_ints (n :: ns)) (by have := depth_ints (n :: ns); rw [List.map_cons] at this; omega) fun i v h' tk bs hv rd kp => ?_
      rw [minD_ints] at rd
      cases rd with
      | int _ t => exact ⟨.int _, H, I.kept kp, ⟨t, rfl⟩, at_once rs q (.int _)⟩
theorem call_maxU (hc : X.calm = true) (hu : X.A.units + 65 < cLine) : CallR X (.builtin "max") (xN (rc X fa) (pickU max)) := by
  intro pins s σ H xs us Q I rr ⟨p, S, ds, d, S', rs, rv, e, q⟩
  obtain ⟨rfl, ys, n, ns, rfl, e1, rfl⟩ := pickU_cases e
  cases rv with
  | cons r1 r2 =>
    cases r2
    cases r1 with
    | @tup a vs _ s1 v1 =>
      have g3 := asInts_ok v1 e1
      subst g3
      obtain ⟨its, rvs, pl, hz⟩ := I.tuple s1.sq
      rw [Vals.ref1 rr]
      refine max_tuple_data (I.ok.hd hc) (show s.heap.IsTuple a its.toArray from pl) (by simpa using reads_ints rvs) (alike_ints (n :: ns)) (by have := depth_ints (n :: ns); rw [List.map_cons] at this; omega) fun i v h' tk bs hv rd kp => ?_
      rw [maxD_ints] at rd
      cases rd with
      | int _ t => exact ⟨.int _, H, I.kept kp, ⟨t, rfl⟩, at_once rs q (.int _)⟩
def minX : Prim := orP (aggD minI) (orP minTD (pickU min))
def maxX : Prim := orP (aggD maxI) (pickU max)
theorem call_maxX (hc : X.calm = true) (hu : X.A.units + 65 < cLine) : CallR X (.builtin "max") (xN (rc X fa) maxX) := call_or (call_maxJ hc) (call_maxU hc hu)
def sortedX : Prim := orP sortedD (orP sortedTD (orP sortedUD sortedND))
theorem call_minX (hc : X.calm = true) (hu : X.A.units + 65 < cLine) : CallR X (.builtin "min") (xN (rc X fa) minX) := call_or (call_minJ hc) (call_or (call_minT hc hu) (call_minU hc hu))
theorem call_sortedX (hc : X.calm = true) (hu : X.A.units + 65 < cLine) : CallR X (.builtin "sorted") (xN (rc X fa) sortedX) := call_or call_sortedJ (call_or (call_sortedT hu) (call_or (call_sortedU hu) (call_sortedN hc hu)))
/-! ### {} -/
def eDct : E D := fun _ S => .ok (.loc S.length) (S ++ [.dct []])
theorem f_dct : PE X (.Dict [] [] pos) (xE (rc X fa) W eDct) := impE pe_dnewK fun s H Q ⟨p, n, S, rs, re, h⟩ q hq =>
  h (p ++ [q]) _ (pre_snoc _ _) (Tm.all hq) (rs.new hq ⟨[], upd_same, .nil⟩) _ (.loc (by rw [← rs.len]; simp))
/-! ### tuple(range(n)) -/
def tupRg (d : D) (S : Sto) : Option (D × Sto) := match d with
  | .int n => if decide (n.natAbs ≤ LINE) = true then some (.tup (rgD n.toNat), S) else none
  | _ => none
theorem f_tupRg {f : E D} {q1 q2 pos2 : Pos} (hc : X.calm = true) (hg : Gl X "tuple") (hm : X.mg "tuple" = none) (hg2 : Gl X "range") (hm2 : X.mg "range" = none) (ha : PE X a (xE (rc X fa) W f)) (na : starEach [a] X.env = (false, eval a X.env) :: starEach [] X.env) :
    PE X (.Call (.Name "tuple" q1) [.Call (.Name "range" q2) [a] [] pos2] [] pos) (xE (rc X fa) W (eOp1 tupRg f)) :=
  impE (pe_tupRg hc hg hm (prg_1 hg2 hm2 ha na)) fun s H Q ⟨p, n, S, rs, re, h⟩ => xE_of rs re h fun d p1 S1 H1 v rs1 re1 hp t rv h1 => by
    obtain ⟨d3, S3, e3, h3⟩ := aft_lft h1
    unfold tupRg at e3
    split at e3
    · rename_i j
      split at e3
      · rename_i hj
        have hj := of_decide_eq_true hj
        cases rv
        cases e3
        refine ⟨j, rfl, ?_, fun q hq => ?_⟩
        · unfold LINE at hj
          exact ⟨by omega, by omega, by omega, by omega, by omega⟩
        · have e4 : rgV 0 j = (List.range j.toNat).map fun i => V.int ((fun i : Nat => (i : Int)) i) := by
            unfold rgV
            rw [Int.sub_zero]
            exact List.map_congr_left fun i _ => by rw [Int.zero_add]
          rw [e4]
          obtain ⟨n1, n2, n3⟩ := new_item rs1 hq (rvs_rg (f := fun i => (i : Int)) (List.range j.toNat))
          exact h3 p1 _ (List.prefix_refl _) n1 n2 _ n3
      · cases e3
    · cases e3
/-! ### three names at once -/
def sPar3 (i j l : Nat) (f1 f2 f3 : E D) : E Out := sBnd f1 fun d1 => sBnd f2 fun d2 => sBnd f3 fun d3 n S => .ok (.nx (((n.set i (some d1)).set j (some d2)).set l (some d3))) S
theorem f_spar3 {i j l : Nat} {x y z : Str} {f1 f2 f3 : E D} {px py pz pt : Pos} {kt k2 : Nat} {pt2 : Pos} (hc : X.calm = true) (hN : X.N.Nodup) (hi : X.N[i]? = some x) (hj : X.N[j]? = some y) (hl : X.N[l]? = some z) (hij : i ≠ j) (hil : i ≠ l) (hjl : j ≠ l)
    (hx : X.env.scope.names.lookup x = some .local) (hy : X.env.scope.names.lookup y = some .local) (hz : X.env.scope.names.lookup z = some .local) (ha : PE X a (xE (rc X fa) W f1)) (hb : PE X b (xE (rc X fa) W f2)) (hc3 : PE X c (xE (rc X fa) W f3))
    (h1 : starEach [a, b, c] X.env = (false, eval a X.env) :: starEach [b, c] X.env) (h2 : starEach [b, c] X.env = (false, eval b X.env) :: starEach [c] X.env) (h3 : starEach [c] X.env = (false, eval c X.env) :: starEach [] X.env)
    (hw : swappedStores [.Tuple [.Name x px, .Name y py, .Name z pz] kt pt] (.Tuple [a, b, c] k2 pt2) X.env = pure (some [x, y, z])) (hs : swapsWithSole [.Tuple [.Name x px, .Name y py, .Name z pz] kt pt] (.Tuple [a, b, c] k2 pt2) pos.line X.env = pure false) :
    PS X (.Assign [.Tuple [.Name x px, .Name y py, .Name z pz] kt pt] (.Tuple [a, b, c] k2 pt2) pos) (xS (rc X fa) W (sPar3 i j l f1 f2 f3)) :=
  impS (ps_par3 hc hN hi hj hl hij hil hjl hx hy hz (pa_cons ha (pa_cons hb (pa_cons hc3 pa_nil h3) h2) h1) hw hs) fun D0 s H ⟨p, n, S, rs, re, h⟩ => ⟨p, n, S, rs, re, sE_of rs re h fun d1 p1 S1 H1 rs1 re1 hp1 t1 h1 v1 rv1 =>
    ⟨p1, n, S1, rs1, re1, sE_of rs1 re1 h1 fun d2 p2 S2 H2 rs2 re2 hp2 t2 h2 v2 rv2 => ⟨p2, n, S2, rs2, re2, sE_of rs2 re2 h2 fun d3 p3 S3 H3 rs3 re3 hp3 t3 h3 v3 rv3 =>
      ⟨v1, v2, v3, rfl, aft_ok rs3 h3 _ (((re3.set (rv1.mono (hp2.trans hp3) (t2.trans t3))).set (rv2.mono hp3 t3)).set rv3)⟩⟩⟩⟩
/-! ### comprehensions of more clauses -/
theorem f_lcN {elt : Expr} {a0 : Comprehension} {as : List Comprehension} {c0 : LcC} {r : List LcC} {scope : Scope} {own : List (Str × Nat)} {fe : E D} (hlen : as.length = r.length) (h0 : a0.is_async = 0) (ha : ∀ x ∈ as, x.is_async = 0) (L : LcOk X elt (clx (rc X fa) W a0 c0) (clxs (rc X fa) as r) scope own (xE (rc X fa) W0 fe)) :
    PE X (.ListComp elt (a0 :: as) scope pos) (xE (rc X fa) W (eLcN c0 r fe)) := by
  have e0 : (clx (rc X fa) W a0 c0).c = a0 := by
    obtain ⟨t, i, f, k⟩ := a0
    have : k = 0 := h0
    subst this; rfl
  have e1 : ∀ {as : List Comprehension} {r : List LcC}, as.length = r.length → (∀ x ∈ as, x.is_async = 0) → (clxs (rc X fa) as r).map ClX.c = as := by
    intro as
    induction as with
    | nil => intro r hl _; cases r with | nil => rfl | cons _ _ => cases hl
    | cons a as ih =>
      intro r hl ha
      cases r with
      | nil => cases hl
      | cons c r =>
        obtain ⟨t, i, f, k⟩ := a
        have : k = 0 := ha _ List.mem_cons_self
        subst this
        show _ :: (clxs (rc X fa) as r).map ClX.c = _
        rw [ih (Nat.succ.inj hl) fun x hx => ha x (List.mem_cons_of_mem _ hx)]
        rfl
  have := pe_lcN (pos := pos) L
  rw [e0, e1 hlen ha] at this
  exact impE this fun s H Q h => lcN_in hlen h
theorem f_setlcN {i : Nat} {y : Str} {py spos : Pos} {elt : Expr} {a0 : Comprehension} {as : List Comprehension} {c0 : LcC} {r : List LcC} {scope : Scope} {own : List (Str × Nat)} {fe : E D} (hlen : as.length = r.length) (h0 : a0.is_async = 0) (ha : ∀ x ∈ as, x.is_async = 0) (L : LcOk X elt (clx (rc X fa) W a0 c0) (clxs (rc X fa) as r) scope own (xE (rc X fa) W0 fe))
    (hy : X.N[i]? = some y) (hyl : X.env.scope.names.lookup y = some .local) (hsw : swapsWith (.ListComp elt (a0 :: as) scope pos) (some (.Name y py)) spos.line X.env = pure true) :
    PS X (.Assign [.Name y py] (.ListComp elt (a0 :: as) scope pos) spos) (xS (rc X fa) W (sAsgn (eLcN c0 r fe) (gNam i))) := by
  have e0 : (clx (rc X fa) W a0 c0).c = a0 := by
    obtain ⟨t, i, f, k⟩ := a0
    have : k = 0 := h0
    subst this; rfl
  have e1 : ∀ {as : List Comprehension} {r : List LcC}, as.length = r.length → (∀ x ∈ as, x.is_async = 0) → (clxs (rc X fa) as r).map ClX.c = as := by
    intro as
    induction as with
    | nil => intro r hl _; cases r with | nil => rfl | cons _ _ => cases hl
    | cons a as ih =>
      intro r hl ha
      cases r with
      | nil => cases hl
      | cons c r =>
        obtain ⟨t, i, f, k⟩ := a
        have : k = 0 := ha _ List.mem_cons_self
        subst this
        show _ :: (clxs (rc X fa) as r).map ClX.c = _
        rw [ih (Nat.succ.inj hl) fun x hx => ha x (List.mem_cons_of_mem _ hx)]
        rfl
  have := ps_setLcN (i := i) (y := y) (py := py) (pos := pos) (spos := spos) L
  rw [e0, e1 hlen ha] at this
  exact impS (this hy hyl hsw) fun D0 s H ⟨p, n, S, rs, re, h⟩ => lcN_in hlen ⟨p, n, S, rs, re, sE_of rs re h fun d p1 S1 H1 rs1 re1 hp t h1 v rv => aft_ok rs1 h1 _ (re1.set rv)⟩
end
end Jm

set_option Elab.async false
set_option linter.all false
set_option maxRecDepth 100000
set_option maxHeartbeats 4000000
/-! Jm, part Oh: list(d.values()). -/
namespace Jm
open PySem PySem.Spec PyProof.Rows L2
section
variable {X : Cx} {fa : Gl0} {W : WX} {o : Expr} {pos : Pos}
/-! ### list(d.values()) -/
def tVals (P : Program) (w : World) (to : TE) : TE := fun s H Q => to s H fun x H1 => ∃ (a : Addr) (xs : List (NestedKey × Addr × Value)) (vs : List V), x = .ref a ∧ (∀ h, L2.HOk P w H1 h → (a == sysModules) = false ∧ xs.length ≤ sizeLine ∧ ∃ ob es ep, h.get? a = some ob ∧ ob.ExactDict ∧ ob.data = .dict es ep ∧ es.toList = xs.map (entryOfKey (nestedKind P w))) ∧
  Vals vs (xs.map (·.2.2)) ∧ ∀ q, H1 q = none → Q (.ref q) (upd H1 q (.lst vs))
theorem pe_vals {to : TE} {q1 apos cpos : Pos} (hc : X.calm = true) (hg : Gl X "list") (hm : X.mg "list" = none) (ho : PE X o to)
    (hbase : attributeBase o "values" X.env (eval o X.env) = eval o X.env) (hline : (apos.endLine == cpos.line) = true) :
    PE X (.Call (.Name "list" q1) [.Call (.Attribute o "values" apos) [] [] cpos] [] pos) (tVals X.prog X.w to) := ⟨fun pins s σ H Q I h => by
  refine Call_ (ld_blt I hg hm boot_list (PyProof.Rows.callWith_type1 (PyProof.Rows.args_cons ?_ rfl) rfl rfl))
  refine wpAny_Call_method0_late hbase hline (thn (ho.run pins s σ H _ I h) fun v s1 ⟨x, H1, I1, r1, a, xs, vs, ex, ha, hv, q1⟩ => ?_)
  subst ex
  cases r1
  obtain ⟨hs, hz, ob, es, ep, e1, e2, e3, e4⟩ := ha _ I1.hok
  have hm : s1.heap.DictRaw a es ep := ⟨ob, e1, e2, e3⟩
  refine ⟨"dict", _, PySem.F.plainAttrs_dict, PySem.F.slot_dict_values, PySem.F.type_dict_values, hm.typeIs, (fun b e => by cases e; exact ⟨ob, e1, e2.2.1⟩), Calls.callWith_builtin rfl (PySem.evalArgs_none ?_)⟩
  refine call_meetsIn PySem.F.slot_dict_values hm.typeIs PySem.F.entry_dict_values (PySem.F.args_dict_values_1 _) (meets_dict_values_raw a hs) ⟨⟨es, ep, hm⟩, PyProof.Rows.args_nil ?_⟩
  have I2 : Inv X pins σ H1 { s1 with heap := s1.heap.push { cls := .type "dict_values", data := .fields #[.ref a] } } := I1.kept fun b o e => Heap.get?_push_of_some _ e
  have hsz : es.size = xs.length := by rw [← Array.length_toList, e4, List.length_map]
  refine PySem.W.kdl_call (KdlSrc.rawValues (r := s1.heap.objs.size) (d := a) (es := es) (ep := ep)) (I1.ok.hd hc) ⟨⟨_, Heap.get?_push_size _ rfl, rfl, rfl⟩, hm.push _⟩ (by rw [hsz]; exact hz) fun h' tk acc' c' hk hS hacc => ?_
  have hl : vs.length = xs.length := by rw [hv.length, List.length_map]
  refine ⟨.ref _, upd H1 _ (.lst vs), I2.laid hk (Nat.le_refl _) (show ObjOk X.prog X.w _ _ _ (.lst vs) from ⟨by rw [hl]; exact hz, acc'.toList, c', ?_, ?_⟩), rfl, q1 _ (I2.hok.fresh (Nat.le_refl _))⟩
  · have : acc'.toList = xs.map (·.2.2) := by
      refine List.ext_getElem? fun j => ?_
      by_cases hj : j < es.size
      · have hj2 : j < acc'.size := by rw [hacc.1]; exact hj
        obtain ⟨hi, ev⟩ := hacc.2 j acc'[j] (by simp [hj2])
        have e6 := congrArg (·[j]?) e4
        have hjx : j < xs.length := by omega
        have e7 : es[j] = entryOfKey (nestedKind X.prog X.w) xs[j] := by
          have : es.toList[j]? = some es[j] := by simp [hj]
          rw [e4] at this
          simp [hjx] at this
          exact this.symm
        rw [Array.getElem?_toList, Array.getElem?_eq_getElem hj2, ev, e7]
        simp [hjx, entryOfKey]
      · have h1 : acc'.toList[j]? = none := by rw [List.getElem?_eq_none_iff, Array.length_toList, hacc.1]; omega
        have h2 : (xs.map (·.2.2))[j]? = none := by rw [List.getElem?_eq_none_iff, List.length_map]; omega
        rw [h1, h2]
    rw [this]
    exact hv
  · rw [Array.toArray_toList]; exact hS⟩
/-- the values of a dict as a new list -/
def valsD (d : D) (S : Sto) : Option (D × Sto) := match d with
  | .loc l => match (S[l]?).bind asN with
    | some kvs => mkLst (kvs.map (·.2)) S
    | none => none
  | _ => none
theorem ro_n {p : List Addr} {H : Hp} {a : Addr} {o : O} {kvs : List (NestedKey × D)} (ro : RO (rc X fa) p H a o) (eo : asN o = some kvs) :
    ∃ xs : List (NestedKey × Addr × Value), (∀ h, L2.HOk X.prog X.w H h → (a == sysModules) = false ∧ xs.length ≤ sizeLine ∧ ∃ ob es ep, h.get? a = some ob ∧ ob.ExactDict ∧ ob.data = .dict es ep ∧ es.toList = xs.map (entryOfKey (nestedKind X.prog X.w))) ∧ Paired (RN (rc X fa) p H) kvs xs := by
  unfold asN at eo
  split at eo
  · cases eo
    obtain ⟨xs, h1, h2, h3, h4⟩ := ro
    refine ⟨xs, fun h ok => ?_, h4⟩
    obtain ⟨⟨o, es, ep, e1, e2, e3, e4, e5⟩, _, _⟩ := (show ObjOk X.prog X.w H h a (.ext (RawN X.prog X.w a xs)) from ok a _ h1)
    exact ⟨h3, h2, o, es, ep, e1, e2, e3, e4⟩
  · cases eo
    obtain ⟨us, h1, h2⟩ := ro
    cases h2
    refine ⟨[], fun h ok => ?_, .nil⟩
    obtain ⟨z, hd, vs, rel, o, es, ep, e1, e2, e3, _, e5, _⟩ := (show ObjOk X.prog X.w H h a (.dK []) from ok a _ h1)
    cases rel
    have : es.toList = [] := by generalize es.toList = l at e5; cases e5; rfl
    exact ⟨hd, Nat.zero_le _, o, es, ep, e1, e2, e3, this⟩
  · cases eo
theorem rn_vals {p : List Addr} {H : Hp} : ∀ {kvs : List (NestedKey × D)} {xs : List (NestedKey × Addr × Value)}, Paired (RN (rc X fa) p H) kvs xs → ∃ vs, Vals vs (xs.map (·.2.2)) ∧ RVs (rc X fa) p H (kvs.map (·.2)) vs
  | _, _, .nil => ⟨[], .nil, .nil⟩
  | _, _, .cons ⟨_, _, v, h1, h2⟩ t =>
    let ⟨vs, h3, h4⟩ := rn_vals t
    ⟨v :: vs, .cons h2 h3, .cons h1 h4⟩
theorem f_vals {f : E D} {q1 apos cpos : Pos} (hc : X.calm = true) (hg : Gl X "list") (hm : X.mg "list" = none) (ho : PE X o (xE (rc X fa) W f))
    (hbase : attributeBase o "values" X.env (eval o X.env) = eval o X.env) (hline : (apos.endLine == cpos.line) = true) :
    PE X (.Call (.Name "list" q1) [.Call (.Attribute o "values" apos) [] [] cpos] [] pos) (xE (rc X fa) W (eOp1 valsD f)) :=
  impE (pe_vals hc hg hm ho hbase hline) fun s H Q ⟨p, n, S, rs, re, h⟩ => xE_of rs re h fun d p1 S1 H1 v rs1 re1 hp t rv h1 => by
    obtain ⟨d3, S3, e3, h3⟩ := aft_lft h1
    unfold valsD at e3
    split at e3
    · rename_i l
      split at e3
      · rename_i kvs hk
        cases rv with
        | @loc _ a hl =>
          obtain ⟨ob, hk1, hk2⟩ := Option.bind_eq_some_iff.mp hk
          obtain ⟨xs, g1, g4⟩ := ro_n (rs1.at_ l _ a hk1 hl) hk2
          obtain ⟨vs, h5, h6⟩ := rn_vals g4
          exact ⟨a, xs, vs, rfl, g1, h5, fun q hq => (new_list rs1 h6 e3 h3).2 q hq⟩
      · cases e3
    · cases e3
end
end Jm

set_option Elab.async false
set_option linter.all false
set_option maxRecDepth 100000
set_option maxHeartbeats 4000000
/-! Jm, part Oi: str of a whole number, {"a": 1}. -/
namespace Jm
open PySem PySem.Spec PyProof.Rows L2
section
variable {X : Cx} {fa : Gl0} {W : WX} {o : Expr} {pos : Pos}
def strD : Prim := fun ds S => match ds with
  | [.int i] => if i.natAbs.log2 < 1920 then some (.str ((toString i : String) : Str), S) else none
  | _ => none
theorem call_strJ : CallR X (.type "str") (xN (rc X fa) strD) := by
  intro pins s σ H xs us Q I rr ⟨p, S, ds, d, S', rs, rv, e, q⟩
  unfold strD at e
  split at e
  · rename_i i
    split at e
    · rename_i hl
      cases e
      cases rv with
      | cons r1 r2 =>
        cases r2
        cases r1
        exact call_str_int pins s σ H _ us Q I rr ⟨i, rfl, hl, at_once rs q (.str _)⟩
    · cases e
  · cases e
/-- {k: v} of constants -/
def eDct1 (k : Str) (v : Int) : E D := fun _ S => .ok (.loc S.length) (S ++ [.dct [(.inr k, .int v)]])
theorem f_dct1 {k : Str} {v : Int} {u1 u2 : Nat} {p1 p2 : Pos} : PE X (.Dict [some (.Constant (.str k) u1 p1)] [.Constant (.int v) u2 p2] pos) (xE (rc X fa) W (eDct1 k v)) :=
  impE (pe_disp (pps_cons pe_str pe_int pps_nil) rfl rfl (by simp) (by simp)) fun s H Q ⟨p, n, S, rs, re, h⟩ q hq => by
    refine ⟨upd_same, [(.inr k, .int v)], rfl, by simp, ?_⟩
    rw [upd_upd]
    exact h (p ++ [q]) _ (pre_snoc _ _) (Tm.all hq) (rs.new hq ⟨[(.inr k, .int v)], upd_same, .cons ⟨rfl, .int v⟩ .nil⟩) _ (.loc (by rw [← rs.len]; simp))
end
end Jm

set_option Elab.async false
set_option linter.all false
set_option maxRecDepth 100000
set_option maxHeartbeats 4000000
/-! Jm, part Wa: len(set(xs)), xs a list of whole numbers. -/
noncomputable section
namespace Jm
open PySem PySem.Spec PyProof.Rows L2
variable {X : Cx} {fa : Gl0} {W : WX} {a : Expr} {pos : Pos}
/-- how many there are of some numbers, each counted once -/
def nub (ns : List Int) : Nat := (firstMet (fun i => ns.getD i 0) ns.length).length
/-- the elements that are left if each is taken once -/
def nubL (ks : List NestedKey) : List NestedKey := ks.foldr (fun k l => if k ∈ l then l else k :: l) []
theorem nubL_mem (ks : List NestedKey) : ∀ (k : NestedKey), k ∈ nubL ks ↔ k ∈ ks := by
  induction ks with
  | nil => exact fun k => Iff.rfl
  | cons x ks ih =>
    intro k
    show k ∈ (if x ∈ nubL ks then nubL ks else x :: nubL ks) ↔ _
    split
    · rename_i h
      rw [ih, List.mem_cons]
      exact ⟨.inr, fun z => z.elim (fun z => by rw [z]; exact (ih x).mp h) id⟩
    · rw [List.mem_cons, List.mem_cons, ih]
theorem nubL_nd (ks : List NestedKey) : (nubL ks).Nodup := by
  induction ks with
  | nil => exact List.nodup_nil
  | cons x ks ih =>
    show (if x ∈ nubL ks then nubL ks else x :: nubL ks).Nodup
    split
    · exact ih
    · rename_i h; exact List.nodup_cons.mpr ⟨h, ih⟩
theorem nubL_of_nd {ks : List NestedKey} (h : ks.Nodup) : nubL ks = ks := by
  induction ks with
  | nil => rfl
  | cons x ks ih =>
    obtain ⟨h1, h2⟩ := List.nodup_cons.mp h
    show (if x ∈ nubL ks then nubL ks else x :: nubL ks) = _
    rw [if_neg (fun z => h1 ((nubL_mem ks x).mp z)), ih h2]
theorem keys_at {X : Cx} {fa : Gl0} {pins : List (Addr × Obj)} {σ : L2.St} {H : Hp} {s : Shared} {p : List Addr} (I : Inv X pins σ H s) : ∀ {ds : List D} {vs : List V} {ks : List NestedKey} {us : List Value}, RVs (rc X fa) p H ds vs → keysOf ds = some ks → Vals vs us →
    ∃ xs : List (Addr × NestedKey), us = xs.map (fun x => Value.ref x.1) ∧ xs.map (·.2) = ks ∧ ∀ x ∈ xs, NIs s.heap x.2 x.1
  | _, _, _, _, .nil, e, .nil => by cases e; exact ⟨[], rfl, rfl, fun x hx => nomatch hx⟩
  | _, _, _, _, @RVs.cons _ _ _ d v ds vs r rs, e, .cons q qs => by
    have e' : (match tupN d, keysOf ds with | some k, some ks => some (k :: ks) | _, _ => none) = some _ := e
    split at e'
    · rename_i k ks e1 e2
      cases e'
      obtain ⟨xs, h1, h2, h3⟩ := keys_at I rs e2 qs
      obtain ⟨b, rfl, rfl, hk⟩ := key_at r e1 q
      have := key_is I hk
      exact ⟨(b, k) :: xs, by rw [h1]; rfl, by rw [List.map_cons, h2], fun x hx => (List.mem_cons.mp hx).elim (fun z => by rw [z]; exact this) (h3 x)⟩
    · cases e'
def tNub (R : RC) (K : PySem.W.Frag) (ta : TE) : TE := fun s H Q => ta s H fun x H1 => ∃ l, x = .ref l ∧ ((∃ ns : List Int, SqL K H1 l (ns.map V.int) ∧ ns.length + 1 < scanBound ∧ Q (.int (nub ns)) H1) ∨
  ∃ (p : List Addr) (ds : List D) (vs : List V) (ks : List NestedKey), SqL K H1 l vs ∧ RVs R p H1 ds vs ∧ keysOf ds = some ks ∧ ks.length ≤ 76 ∧ Q (.int (nubL ks).length) H1)
theorem pe_nub {ta : TE} {p p2 q : Pos} (hc : X.calm = true) (hu : X.A.units + 65 < cLine) (hg : Gl X "len") (hm : X.mg "len" = none) (hg2 : Gl X "set") (hm2 : X.mg "set" = none) (ha : PE X a ta) (na : starEach [a] X.env = (false, eval a X.env) :: starEach [] X.env) :
    PE X (.Call (.Name "len" p) [.Call (.Name "set" p2) [a] [] q] [] pos) (tNub (rc X fa) X.K ta) := ⟨fun pins s σ H Q I h => by
  refine Call_ (ld_blt I hg hm boot_len (PyProof.Rows.callWith_builtin1 (PyProof.Rows.args_cons ?_ rfl) rfl rfl))
  refine Call_ (ld_blt I hg2 hm2 boot_set (PyProof.Rows.callWith_type1 (PyProof.Rows.args_cons (thn (ha.run pins s σ H _ I h) fun v s1 ⟨x, H1, I1, r1, q1⟩ => PyProof.Rows.args_nil ?_) na) na rfl))
  obtain ⟨l, rfl, ⟨ns, hq, hb, q1⟩ | ⟨pp, ds, vs, ks, hq, rv, hk, hb, q1⟩⟩ := q1
  · cases r1
    obtain ⟨its, r, pl, hz⟩ := I1.list hq
    have hl : its.toArray.size = ns.length := by rw [List.size_toArray, ← r.length, List.length_map]
    refine PySem.call_set_list (ns := ns) (I1.ok.hd hc) pl.isList (by simpa using ints_of_vals r) (by rw [hl]; exact hb) fun h' tk hS hk => PyProof.Rows.args_nil ?_
    rw [hl] at hS
    obtain ⟨o, es, ep, t, ho, hex, hd, _, _, _, hf, hn⟩ := hS
    have hle := firstMet_length_le (fun i => ns.getD i 0) ns.length
    have I2 : Inv X pins σ H1 { s1 with heap := h', toks := tk } := I1.kept fun b o e => hk b o (Heap.lt_size e) e
    refine call_len_set ho hex hd hf (by rw [hn]; unfold scanBound at hb; omega) ⟨.int (nub ns), H1, I2.tok _, ⟨_, by rw [hn]; rfl⟩, q1⟩
  · cases r1
    obtain ⟨its, r, pl, hz⟩ := I1.list hq
    obtain ⟨xs, e1, e2, h3⟩ := keys_at I1 rv hk r
    have hxl : xs.length = ks.length := by rw [← e2, List.length_map]
    refine call_setN xs (I1.ok.hd hc) pl.isList (by simpa using e1) h3 (by omega) (by omega) fun h' tk L es ep t S3 hgot hkeep => PyProof.Rows.args_nil ?_
    have I2 : Inv X pins σ H1 { s1 with heap := h', toks := tk } := I1.kept hkeep
    obtain ⟨o, ho, hex, hd⟩ := S3.ob
    have hn : es.size = (nubL ks).length := by
      rw [S3.size, ← List.length_map (f := (·.2))]
      refine ((List.perm_ext_iff_of_nodup hgot.nd (nubL_nd ks)).mpr fun k => ?_).length_eq
      rw [hgot.all k, List.take_length, e2, nubL_mem]
    have few := S3.few
    have hsz := S3.size
    refine call_len_set ho hex hd S3.fits (by omega) ⟨.int (nubL ks).length, H1, I2.tok _, ⟨_, by rw [hn]⟩, q1⟩⟩
def nubD (d : D) (S : Sto) : Option (D × Sto) := match d with
  | .loc l => match lstAt S l with
    | some xs => match asInts xs with
      | some ns => if ns.length < 4000 then some (.int (nub ns), S) else none
      | none => match keysOf xs with
        | some ks => if ks.length ≤ 76 then some (.int (nubL ks).length, S) else none
        | none => none
    | none => none
  | _ => none
theorem f_nub {f : E D} {q1 q2 pos2 : Pos} (hc : X.calm = true) (hu : X.A.units + 65 < cLine) (hg : Gl X "len") (hm : X.mg "len" = none) (hg2 : Gl X "set") (hm2 : X.mg "set" = none) (ha : PE X a (xE (rc X fa) W f)) (na : starEach [a] X.env = (false, eval a X.env) :: starEach [] X.env) :
    PE X (.Call (.Name "len" q1) [.Call (.Name "set" q2) [a] [] pos2] [] pos) (xE (rc X fa) W (eOp1 nubD f)) :=
  impE (pe_nub (fa := fa) hc hu hg hm hg2 hm2 ha na) fun s H Q ⟨p, n, S, rs, re, h⟩ => xE_of rs re h fun d p1 S1 H1 v rs1 re1 hp t rv h1 => by
    obtain ⟨d3, S3, e3, h3⟩ := aft_lft h1
    unfold nubD at e3
    split at e3
    · rename_i l
      split at e3
      · rename_i xs hx
        cases rv with
        | loc hl =>
          obtain ⟨vs, h5, h6⟩ := rs1.list hl hx
          split at e3
          · rename_i ns hn
            split at e3
            · rename_i hb
              cases e3
              have e6 := asInts_ok h6 hn
              subst e6
              exact ⟨_, rfl, .inl ⟨ns, .inl (.inl h5), by unfold scanBound; omega, at_once rs1 h3 (.int _)⟩⟩
            · cases e3
          · split at e3
            · rename_i ks hk
              split at e3
              · rename_i hb
                cases e3
                exact ⟨_, rfl, .inr ⟨_, xs, vs, ks, .inl (.inl h5), h6, hk, hb, at_once rs1 h3 (.int _)⟩⟩
              · cases e3
            · cases e3
      · cases e3
    · cases e3
end Jm

set_option Elab.async false
set_option linter.all false
set_option maxRecDepth 100000
set_option maxHeartbeats 4000000
/-! Jm, part Ge: d.get(k), d.get(k, z). -/
noncomputable section
namespace Jm
open PySem PySem.Spec PyProof.Rows L2
def getAt (l : Nat) (k z : D) (S : Sto) : Option (D × Sto) := match keyD k with
  | some key => (dctAt S l).map fun kvs => ((kvGet kvs key).getD z, S)
  | none => match tupN k with
    | some key => ((S[l]?).bind asR).map fun kvs => ((nGet kvs key).getD z, S)
    | none => none
def getXD : MPrim := fun d ds S => match d, ds with
  | .loc l, [k] => getAt l k .non S
  | .loc l, [k, z] => getAt l k z S
  | _, _ => none
def isDc (d : D) (S : Sto) : Bool := match d with
  | .loc l => match S[l]? with
    | some (.lst _) => false
    | some _ => true
    | none => false
  | _ => false
def chkDc (d : D) : E Unit := fun _ S => if isDc d S = true then .ok () S else .bad
def eGet (f : E D) (fs : List (E D)) : E D := eBnd f fun d => eBnd (chkDc d) fun _ => eBnd (eAll fs) fun ds _ S => lft (getXD d ds S)
section
variable {X : Cx} {fa : Gl0} {W : WX} {e o : Expr} {es : List Expr} {pos : Pos}
/-- what a method's call asks of its object -/
def TyAs (X : Cx) (T : String) (x : V) (H : Hp) : Prop := ∀ (pins : List (Addr × Obj)) (σ : L2.St) (s : Shared) (v : Value), Inv X pins σ H s → RelV x v → s.TypeIs v T ∧ ∀ a, v = .ref a → ∃ ob, s.heap.get? a = some ob ∧ ob.dict = none
def tBMP (X : Cx) (T : String) (r : V → List V → Hp → VK → Prop) (to : TE) (t : TA) : TE := fun σ H Q => to σ H fun x H1 => TyAs X T x H1 ∧ t σ H1 fun xs H2 => r x xs H2 Q
theorem pe_bmP {to : TE} {t : TA} {name : Str} {apos cpos : Pos} {T id : String} {r : V → List V → Hp → VK → Prop} (pa : PlainAttrs T) (slot : Slot T name id) (hty : typeOf (.builtin id) = pure (.type "method_descriptor")) (hm : MtR X id r) (ho : PE X o to) (ha : PA X (e :: es) t)
    (hbase : attributeBase o name X.env (eval o X.env) = eval o X.env)
    (hfew : ((backTo cpos (starEach (e :: es) X.env)).all (fun x => !x.1) && (backToKw cpos (keywordEach [] X.env)).all (fun x => x.1.isSome)
      && decide ((e :: es).length + ([] : List Keyword).length + (if ([] : List Keyword).isEmpty then 0 else 1) < 30)) = true)
    (hline : (apos.endLine == cpos.line) = true) (hs : starEach (e :: es) X.env = (false, eval e X.env) :: starEach es X.env) (hplain : (backTo cpos (starEach es X.env)).any (·.1) = false) :
    PE X (.Call (.Attribute o name apos) (e :: es) [] cpos) (tBMP X T r to t) := by
  refine ⟨fun pins s σ H Q I h => ?_⟩
  refine wpAny_Call_method_late hbase hfew hline rfl (thn (ho.run pins s σ H _ I h) fun v s1 ⟨x, H1, I1, r1, ty, q1⟩ => ?_)
  obtain ⟨h1, h2⟩ := ty pins σ s1 v I1 r1
  refine ⟨T, id, pa, slot, hty, h1, h2, ?_⟩
  have hA := ha.run cpos pins s1 σ H1 _ I1 q1
  rw [hs] at hA ⊢
  refine Calls.callWith_builtin (by show (false || (backTo cpos (starEach es X.env)).any (·.1)) = false; rw [hplain] <;> rfl) (Calls.evalArgs_plain ?_)
  exact thn hA fun us s2 ⟨vs, H2, I2, r2, q2⟩ => hm pins s2 σ H2 x vs v us Q I2 r1 r2 q2
theorem dc_in {d : D} {n : En} {S : Sto} {B : Type} {f : Unit → E B} {R : RC} {p : List Addr} {H : Hp} {Q : B → List Addr → Sto → Hp → Prop} {W' : Value → Option Addr → Hp → Prop} (h : Aft R p H (eBnd (chkDc d) f n S) Q W') : isDc d S = true ∧ Aft R p H (f () n S) Q W' := by
  have h : Aft R p H (rbind (if isDc d S = true then .ok () S else .bad) fun a S' => f a n S') Q W' := h
  by_cases c : isDc d S = true
  · rw [if_pos c] at h; exact ⟨c, h⟩
  · rw [if_neg c] at h; exact h.elim
theorem ty_dict {p : List Addr} {S : Sto} {H : Hp} {d : D} {v : V} (rs : RS (rc X fa) p S H) (r : RV (rc X fa) p H d v) (h : isDc d S = true) : TyAs X "dict" v H := by
  cases r with
  | @loc l a e =>
    cases e3 : S[l]? with
    | none =>
      have h : (match S[l]? with | some (.lst _) => false | some _ => true | none => false) = true := h
      rw [e3] at h; cases h
    | some o =>
      have ro := rs.at_ l o a e3 e
      intro pins σ s u I ru
      cases ru
      cases o with
      | lst ys =>
        have h : (match S[l]? with | some (.lst _) => false | some _ => true | none => false) = true := h
        rw [e3] at h; cases h
      | dct ys =>
        obtain ⟨us, g1, g2⟩ := ro
        obtain ⟨h1, h2, _⟩ := isD_at I (.inl ⟨us, .inl g1⟩)
        exact ⟨h1, h2⟩
      | dctZ ys =>
        obtain ⟨o, us, g1, g2⟩ := ro
        obtain ⟨h1, h2, _⟩ := isD_at I (.inl ⟨us, .inr ⟨o, g1⟩⟩)
        exact ⟨h1, h2⟩
      | dcN ys =>
        obtain ⟨xs, hm, _⟩ := dict_r I ro rfl
        refine ⟨hm.typeIs, fun b q => ?_⟩
        cases q
        obtain ⟨ob, _, _, h1, h2, _⟩ := hm
        exact ⟨ob, h1, h2.2.1⟩
      | dcNZ ys =>
        obtain ⟨xs, hm, _⟩ := dict_r I ro rfl
        refine ⟨hm.typeIs, fun b q => ?_⟩
        cases q
        obtain ⟨ob, _, _, h1, h2, _⟩ := hm
        exact ⟨ob, h1, h2.2.1⟩
  | _ => exact nomatch h
theorem n_get1 {pins : List (Addr × Obj)} {σ : L2.St} {H : Hp} {s : Shared} {p : List Addr} {ob : O} {A : Around} {E : Value → Shared → Prop} {kvs : List (NestedKey × D)} {a b : Addr} {k : NestedKey} {Q : Value → Shared → Prop} (hu : A.units + 9 < cLine) (I : Inv X pins σ H s) (ro : RO (rc X fa) p H a ob) (eo : asR ob = some kvs) (hk : KeyAt (rc X fa) p H b k)
    (h : ∀ u s', Inv X pins σ H s' → (∃ v, RV (rc X fa) p H ((nGet kvs k).getD .non) v ∧ RelV v u) → Q u s') : wpAny (model X.prog X.w) A (call (.builtin "dict.get") [.ref a, .ref b]) Q E s := by
  obtain ⟨xs, hm, _, hd, h4⟩ := dict_r I ro eo
  refine call_meetsIn PySem.F.slot_dict_get hm.typeIs PySem.F.entry_dict_get (PySem.F.args_dict_get_2 _ _) (meetsH_dict_get (nestedKind X.prog X.w) a b hd) ⟨(show A.in1.units + 8 < cLine by simp only [Around.in1_units]; omega), k, xs, key_is I hk, hm, h _ _ (I.tok _) ?_⟩
  rcases rn_get (k := k) h4 with ⟨e1, e2⟩ | ⟨d', v, q, e1, e2, h5, h6⟩
  · rw [e1, e2]; exact ⟨.non, .non, rfl⟩
  · rw [e1, e2]; exact ⟨v, h5, h6⟩
theorem n_get2 {pins : List (Addr × Obj)} {σ : L2.St} {H : Hp} {s : Shared} {p : List Addr} {ob : O} {A : Around} {E : Value → Shared → Prop} {kvs : List (NestedKey × D)} {a b : Addr} {k : NestedKey} {z : D} {zv : V} {zu : Value} {Q : Value → Shared → Prop} (hu : A.units + 9 < cLine) (I : Inv X pins σ H s) (ro : RO (rc X fa) p H a ob) (eo : asR ob = some kvs) (hk : KeyAt (rc X fa) p H b k)
    (rz : RV (rc X fa) p H z zv) (qz : RelV zv zu) (h : ∀ u s', Inv X pins σ H s' → (∃ v, RV (rc X fa) p H ((nGet kvs k).getD z) v ∧ RelV v u) → Q u s') : wpAny (model X.prog X.w) A (call (.builtin "dict.get") [.ref a, .ref b, zu]) Q E s := by
  obtain ⟨xs, hm, _, hd, h4⟩ := dict_r I ro eo
  refine call_meetsIn PySem.F.slot_dict_get hm.typeIs PySem.F.entry_dict_get (PySem.F.args_dict_get_3 _ _ _) (meetsH_dict_get_default (nestedKind X.prog X.w) a b hd zu) ⟨(show A.in1.units + 8 < cLine by simp only [Around.in1_units]; omega), k, xs, key_is I hk, hm, h _ _ (I.tok _) ?_⟩
  rcases rn_get (k := k) h4 with ⟨e1, e2⟩ | ⟨d', v, q, e1, e2, h5, h6⟩
  · rw [e1, e2]; exact ⟨zv, rz, qz⟩
  · rw [e1, e2]; exact ⟨v, h5, h6⟩
theorem k_get {p : List Addr} {S : Sto} {H : Hp} {l : Nat} {a : Addr} {kvs : List (Key × D)} {key : Key} (rs : RS (rc X fa) p S H) (e : p[l]? = some a) (h : dctAt S l = some kvs) :
    ∃ o, DGet H a (kV key) o ∧ ∀ {z : D} {zv : V}, RV (rc X fa) p H z zv → RV (rc X fa) p H ((kvGet kvs key).getD z) (o.getD zv) := by
  obtain ⟨us, g1, g2⟩ := rs.dict e h
  refine ⟨valV us key, .inl ⟨us, key, g1, rfl, rfl⟩, fun rz => ?_⟩
  rcases kv_get (k := key) g2 with ⟨q1, q2⟩ | ⟨d0, v0, q1, q2, q3⟩
  · rw [q1, q2]; exact rz
  · rw [q1, q2]; exact q3
theorem mt_get (hu : X.A.units + 65 < cLine) : MtR X "dict.get" (xM (rc X fa) getXD) := by
  intro pins s σ H x xs v us Q I rx rr ⟨p, S, d1, ds, d, S', rs, r1, rv, e, q⟩
  unfold getXD at e
  split at e
  · rename_i l k
    cases r1 with
    | @loc _ a hl =>
    cases rx
    cases rv with
    | cons rk r0 =>
    cases r0
    cases rr with
    | cons qk q0 =>
    cases q0
    unfold getAt at e
    split at e
    · rename_i key ek
      obtain ⟨kvs, e1, e2⟩ := map_some e
      cases e2
      have hk := key_of rk ek
      subst hk
      obtain ⟨o, g, gv⟩ := k_get (key := key) rs hl e1
      exact d_get1 (by omega) I g qk fun w' s3 I3 rw' => ⟨_, H, I3, rw', at_once rs q (gv .non)⟩
    · split at e
      · rename_i key ek
        obtain ⟨kvs, e1, e2⟩ := map_some e
        cases e2
        obtain ⟨ob, h1, h2⟩ := Option.bind_eq_some_iff.mp e1
        obtain ⟨b, _, rfl, hk⟩ := key_at rk ek qk
        exact n_get1 (by omega) I (rs.at_ l ob a h1 hl) h2 hk fun w' s3 I3 ⟨v, rv, rw'⟩ => ⟨v, H, I3, rw', at_once rs q rv⟩
      · cases e
  · rename_i l k z
    cases r1 with
    | @loc _ a hl =>
    cases rx
    cases rv with
    | cons rk r0 =>
    cases r0 with
    | cons rz r0 =>
    cases r0
    cases rr with
    | cons qk q0 =>
    cases q0 with
    | cons qz q0 =>
    cases q0
    unfold getAt at e
    split at e
    · rename_i key ek
      obtain ⟨kvs, e1, e2⟩ := map_some e
      cases e2
      have hk := key_of rk ek
      subst hk
      obtain ⟨o, g, gv⟩ := k_get (key := key) rs hl e1
      exact d_get2 (by omega) I g qk qz fun w' s3 I3 rw' => ⟨_, H, I3, rw', at_once rs q (gv rz)⟩
    · split at e
      · rename_i key ek
        obtain ⟨kvs, e1, e2⟩ := map_some e
        cases e2
        obtain ⟨ob, h1, h2⟩ := Option.bind_eq_some_iff.mp e1
        obtain ⟨b, _, rfl, hk⟩ := key_at rk ek qk
        exact n_get2 (by omega) I (rs.at_ l ob a h1 hl) h2 hk rz qz fun w' s3 I3 ⟨v, rv, rw'⟩ => ⟨v, H, I3, rw', at_once rs q rv⟩
      · cases e
  · cases e
theorem f_get {f : E D} {fs : List (E D)} {apos : Pos} (hu : X.A.units + 65 < cLine) (ho : PE X o (xE (rc X fa) W f)) (ha : PA X (e :: es) (xA (rc X fa) W (eAll fs)))
    (hbase : attributeBase o "get" X.env (eval o X.env) = eval o X.env)
    (hfew : ((backTo pos (starEach (e :: es) X.env)).all (fun x => !x.1) && (backToKw pos (keywordEach [] X.env)).all (fun x => x.1.isSome)
      && decide ((e :: es).length + ([] : List Keyword).length + (if ([] : List Keyword).isEmpty then 0 else 1) < 30)) = true)
    (hline : (apos.endLine == pos.line) = true) (hs : starEach (e :: es) X.env = (false, eval e X.env) :: starEach es X.env) (hplain : (backTo pos (starEach es X.env)).any (·.1) = false) :
    PE X (.Call (.Attribute o "get" apos) (e :: es) [] pos) (xE (rc X fa) W (eGet f fs)) :=
  impE (pe_bmP PySem.F.plainAttrs_dict PySem.F.slot_dict_get PySem.F.type_dict_get (mt_get (fa := fa) hu) ho ha hbase hfew hline hs hplain) fun s H Q ⟨p, n, S, rs, re, h⟩ => xE_of rs re h fun d p1 S1 H1 v rs1 re1 hp tm rv h1 => by
    obtain ⟨ht, h2⟩ := dc_in h1
    refine ⟨ty_dict rs1 rv ht, xA_of rs1 re1 h2 fun ds p2 S2 H2 vs rs2 re2 hp2 t2 rvs h3 => ?_⟩
    obtain ⟨d3, S3, e3, h4⟩ := aft_lft h3
    exact ⟨p2, S2, d, ds, d3, S3, rs2, rv.mono hp2 t2, rvs, e3, h4⟩
end
end Jm

set_option Elab.async false
set_option linter.all false
set_option maxRecDepth 100000
set_option maxHeartbeats 4000000
/-! Jm, part Gs: set(xs) as a value, its elements tuples within tuples. -/
noncomputable section
namespace Jm
open PySem PySem.Spec PyProof.Rows L2
def setD (d : D) (S : Sto) : Option (D × Sto) := match d with
  | .loc l => match lstAt S l with
    | some xs => match keysOf xs with
      | some ks => if ks.length ≤ 76 then some (.sett xs, S) else none
      | none => none
    | none => none
  | .tup xs => match keysOf xs with
    | some ks => if ks.length ≤ 76 then some (.sett xs, S) else none
    | none => none
  | _ => none
section
variable {X : Cx} {fa : Gl0} {W : WX} {a : Expr} {pos : Pos}
theorem keys_refs {p : List Addr} {H : Hp} : ∀ {ds : List D} {vs : List V} {ks : List NestedKey}, RVs (rc X fa) p H ds vs → keysOf ds = some ks → ∃ L0 : List (Addr × NestedKey), vs = L0.map (fun x => V.ref x.1) ∧ ks = L0.map (·.2)
  | _, _, _, .nil, e => by cases e; exact ⟨[], rfl, rfl⟩
  | _, _, ks, @RVs.cons _ _ _ d v ds vs r rs, e => by
    have e' : (match tupN d, keysOf ds with | some k, some ks => some (k :: ks) | _, _ => none) = some ks := e
    split at e'
    · rename_i k ks e1 e2
      cases e'
      obtain ⟨L0, h1, h2⟩ := keys_refs rs e2
      obtain ⟨b, rfl, _⟩ := key_ref r e1
      exact ⟨(b, k) :: L0, by rw [h1]; rfl, by rw [h2]; rfl⟩
    · cases e'
theorem vals_refs : ∀ {L0 : List (Addr × NestedKey)} {us : List Value}, Vals (L0.map fun x => V.ref x.1) us → us = L0.map fun x => Value.ref x.1
  | [], _, .nil => rfl
  | x :: L0, _, .cons r t => by
    cases r
    rw [vals_refs t]; rfl
def tSet (R : RC) (K : PySem.W.Frag) (ta : TE) : TE := fun s H Q => ta s H fun x H1 => ∃ (l : Addr) (p : List Addr) (ds : List D) (L0 : List (Addr × NestedKey)), x = .ref l ∧ (SqL K H1 l (L0.map fun x => V.ref x.1) ∨ SqT K H1 l (L0.map fun x => V.ref x.1)) ∧ RVs R p H1 ds (L0.map fun x => V.ref x.1) ∧ keysOf ds = some (L0.map (·.2)) ∧ L0.length ≤ 76 ∧
  ∀ (q : Addr) (L : List (Addr × NestedKey)), H1 q = none → (∀ x ∈ L, x ∈ L0) → (∀ k, k ∈ L.map (·.2) ↔ k ∈ L0.map (·.2)) → Q (.ref q) (upd H1 q (.ext (RawS R.w q L)))
theorem pe_set {ta : TE} {p q : Pos} (hc : X.calm = true) (hu : X.A.units + 65 < cLine) (hg2 : Gl X "set") (hm2 : X.mg "set" = none) (ha : PE X a ta) (na : starEach [a] X.env = (false, eval a X.env) :: starEach [] X.env) :
    PE X (.Call (.Name "set" p) [a] [] q) (tSet (rc X fa) X.K ta) := ⟨fun pins s σ H Q I h => by
  refine Call_ (ld_blt I hg2 hm2 boot_set (PyProof.Rows.callWith_type1 (PyProof.Rows.args_cons (thn (ha.run pins s σ H _ I h) fun v s1 ⟨x, H1, I1, r1, q1⟩ => PyProof.Rows.args_nil ?_) na) na rfl))
  obtain ⟨l, pp, ds, L0, rfl, hq, rv, hk, hb, q1⟩ := q1
  cases r1
  have nis := keys_atN I1 rv hk
  have fin : ∀ (h' : Heap) (tk : Nat) (L : List (Addr × NestedKey)) (es : Array (Int × Value)) (ep : Nat) (t : SetTable), SetN X.prog X.w h' s1.heap.objs.size L es ep t → GotN L0 L0.length L → (∀ b o, s1.heap.get? b = some o → h'.get? b = some o) → EP X pins σ Q (.ref s1.heap.objs.size) { s1 with heap := h', toks := tk } := by
    intro h' tk L es ep t S3 hg hkeep
    refine ⟨.ref _, _, I1.laid (t' := tk) hkeep (Nat.le_refl _) (show ObjOk X.prog X.w _ h' _ (.ext (RawS X.w s1.heap.objs.size L)) from ⟨?_, ?_, fun h1 h2 z st => ?_⟩), rfl, q1 _ L (I1.hok.fresh (Nat.le_refl _)) hg.sub fun k => by rw [hg.all k, List.take_length]⟩
    · obtain ⟨o, e1, e2, e3⟩ := S3.ob
      exact ⟨o, es, ep, t, e1, e2, e3, S3.rows, S3.tab, S3.nd, S3.led, S3.room, S3.few⟩
    · obtain ⟨o, e1, _⟩ := S3.ob
      exact ⟨o, e1⟩
    · obtain ⟨o, es, ep, t, e1, e2⟩ := z
      exact ⟨o, es, ep, t, st _ e1, e2⟩
  rcases hq with hq | hq
  · obtain ⟨its, r, pl, hz⟩ := I1.list hq
    refine call_setN L0 (I1.ok.hd hc) pl.isList (by simpa using vals_refs r) nis hb (by omega) fun h' tk L es ep t S3 hgot hkeep => fin h' tk L es ep t S3 hgot hkeep
  · obtain ⟨its, r, pl, hz⟩ := I1.tuple hq
    refine call_setT L0 (I1.ok.hd hc) pl (by simpa using vals_refs r) nis hb (by omega) fun h' tk L es ep t S3 hgot hkeep => fin h' tk L es ep t S3 hgot hkeep⟩
theorem f_set {f : E D} {q2 pos2 : Pos} (hc : X.calm = true) (hu : X.A.units + 65 < cLine) (hg2 : Gl X "set") (hm2 : X.mg "set" = none) (ha : PE X a (xE (rc X fa) W f)) (na : starEach [a] X.env = (false, eval a X.env) :: starEach [] X.env) :
    PE X (.Call (.Name "set" q2) [a] [] pos2) (xE (rc X fa) W (eOp1 setD f)) :=
  impE (pe_set (fa := fa) hc hu hg2 hm2 ha na) fun s H Q ⟨p, n, S, rs, re, h⟩ => xE_of rs re h fun d p1 S1 H1 v rs1 re1 hp t rv h1 => by
    obtain ⟨d3, S3, e3, h3⟩ := aft_lft h1
    have fin : ∀ (xs : List D) (vs : List V) (ks : List NestedKey) (l : Addr), (SqL X.K H1 l vs ∨ SqT X.K H1 l vs) → RVs (rc X fa) p1 H1 xs vs → keysOf xs = some ks → ks.length ≤ 76 → (d3, S3) = (.sett xs, S1) → v = .ref l →
        ∃ (l : Addr) (p : List Addr) (ds : List D) (L0 : List (Addr × NestedKey)), v = .ref l ∧ (SqL X.K H1 l (L0.map fun x => V.ref x.1) ∨ SqT X.K H1 l (L0.map fun x => V.ref x.1)) ∧ RVs (rc X fa) p H1 ds (L0.map fun x => V.ref x.1) ∧ keysOf ds = some (L0.map (·.2)) ∧ L0.length ≤ 76 ∧
          ∀ (q : Addr) (L : List (Addr × NestedKey)), H1 q = none → (∀ x ∈ L, x ∈ L0) → (∀ k, k ∈ L.map (·.2) ↔ k ∈ L0.map (·.2)) → Q (.ref q) (upd H1 q (.ext (RawS (rc X fa).w q L))) := by
      intro xs vs ks l hq rv hk hb hd hv
      obtain ⟨L0, rfl, rfl⟩ := keys_refs rv hk
      cases hd
      refine ⟨l, p1, xs, L0, hv, hq, rv, hk, by simpa using hb, fun q L n h4 h5 => ?_⟩
      have pre := List.prefix_refl p1
      have T := Tm.new (p := p1) (H := H1) (o := .ext (RawS (rc X fa).w q L)) n
      exact h3 p1 _ pre T (rs1.newT n) _ (.sett (rs1.nin n) upd_same (rv.mono pre T) hk h4 h5)
    unfold setD at e3
    split at e3
    · rename_i l
      split at e3
      · rename_i xs hx
        split at e3
        · rename_i ks hk
          split at e3
          · rename_i hb
            cases rv with
            | loc hl =>
              obtain ⟨vs, h5, h6⟩ := rs1.list hl hx
              exact fin xs vs ks _ (.inl (.inl (.inl h5))) h6 hk hb (Option.some.inj e3).symm rfl
          · cases e3
        · cases e3
      · cases e3
    · rename_i xs
      split at e3
      · rename_i ks hk
        split at e3
        · rename_i hb
          cases rv with
          | tup s r => exact fin xs _ ks _ (.inr s.sq) r hk hb (Option.some.inj e3).symm rfl
        · cases e3
      · cases e3
    · cases e3
end
end Jm

set_option Elab.async false
set_option linter.all false
set_option maxRecDepth 100000
set_option maxHeartbeats 4000000
/-! Jm, part Lz: list(zip(a, b)) of two lists. -/
noncomputable section
namespace Jm
open PySem PySem.Spec PyProof.Rows L2
/-- a zip on its way, its tuples held by the list at S -/
structure ZS (S a b z TI TO i1 i2 : Addr) (i : Nat) (h : Heap) : Prop where
  ti : IsPair h TI (.ref i1) (.ref i2)
  j1 : h.IsListIter i1 a i
  j2 : h.IsListIter i2 b i
  to : ∃ o, h.get? TO = some o
  st : (IsZip h z TI TO .none ∧ ∃ x y, IsPair h TO x y) ∨ ∃ (T : Addr) (f : Bool) (oT : Obj), IsZipHeld h z TI TO T f ∧ h.get? T = some oT ∧ T ≠ z ∧ T ≠ i1 ∧ T ≠ i2 ∧ T ≠ S
theorem ZS.keep {S a b z TI TO i1 i2 : Addr} {i : Nat} {h h' : Heap} (r : ZS S a b z TI TO i1 i2 i h) (nz : z ≠ S) (nI : TI ≠ S) (nO : TO ≠ S) (n1 : i1 ≠ S) (n2 : i2 ≠ S) (k : ∀ c o, c ≠ S → h.get? c = some o → h'.get? c = some o) : ZS S a b z TI TO i1 i2 i h' :=
  ⟨k _ _ nI r.ti, r.j1.at fun o e => k _ o n1 e, r.j2.at fun o e => k _ o n2 e, let ⟨o, e⟩ := r.to; ⟨o, k _ _ nO e⟩, by
    rcases r.st with ⟨h1, x, y, h2⟩ | ⟨T, f, oT, h1, h2, h3, h4, h5, h6⟩
    · exact .inl ⟨k _ _ nz h1, x, y, k _ _ nO h2⟩
    · exact .inr ⟨T, f, oT, k _ _ nz h1, k _ _ h6 h2, h3, h4, h5, h6⟩⟩
theorem sql_keep {K : PySem.W.Frag} {H H' : Hp} {S l : Addr} {xs : List V} (h : SqL K H l xs) (n : l ≠ S) (k : ∀ b u, b ≠ S → H b = some u → H' b = some u) : SqL K H' l xs := by
  rcases h with (h | ⟨o, h⟩) | h
  · exact .inl (.inl (k _ _ n h))
  · exact .inl (.inr ⟨o, k _ _ n h⟩)
  · exact .inr h
section
variable {X : Cx} {pins : List (Addr × Obj)} {σ : L2.St} {A : Around}
theorem lz_loop {S a b z TI TO i1 i2 : Addr} {res : Value} {R : Result → Shared → Prop} {xs ys : List V} (D : ZipApart z TI TO i1 i2 a b) (hh : A.handled = none) (nz : z ≠ S) (nI : TI ≠ S) (nO : TO ≠ S) (n1 : i1 ≠ S) (n2 : i2 ≠ S) (na : a ≠ S) (nb : b ≠ S) (hn : min xs.length ys.length + 2 ≤ sizeLine) :
    ∀ (k i : Nat) (s : Shared) (H : Hp) (Ts : List Addr), min xs.length ys.length - i = k → i ≤ min xs.length ys.length → Inv X pins σ H s → (∀ c ∈ [z, TI, TO, i1, i2], FpOk X pins H c) → ZS S a b z TI TO i1 i2 i s.heap →
      H S = some (.lst (Ts.map V.ref)) → Ts.length = i → SqL X.K H a xs → SqL X.K H b ys → (∀ (j : Nat) (T : Addr) (x y : V), Ts[j]? = some T → xs[j]? = some x → ys[j]? = some y → H T = some (.tup [x, y])) →
      (∀ (H' : Hp) (s' : Shared) (Ts' : List Addr), Inv X pins σ H' s' → H' S = some (.lst (Ts'.map V.ref)) → Ts'.length = min xs.length ys.length → (∀ (j : Nat) (T : Addr) (x y : V), Ts'[j]? = some T → xs[j]? = some x → ys[j]? = some y → H' T = some (.tup [x, y])) →
        (∀ c u, c ≠ S → H c = some u → H' c = some u) → (∀ T ∈ Ts', T ∈ Ts ∨ H T = none) → R (.ok (.ret res)) s') →
      codeAny (model X.prog X.w) A (.builtin "list.extend.loop" ⟨[.ref S, .ref z, res], []⟩) R s := by
  intro k
  induction k with
  | zero =>
    intro i s H Ts hk hi I hf hz hS hTl hqa hqb hT hR
    have hin : i = min xs.length ys.length := by omega
    obtain ⟨its, rv, p, _⟩ := I.list hqa
    obtain ⟨its2, rv2, p2, _⟩ := I.list hqb
    have e1 : its.length = xs.length := by rw [← rv.length]
    have e2 : its2.length = ys.length := by rw [← rv2.length]
    have hend : its.toArray[i]? = none ∨ its2.toArray[i]? = none := by
      rcases Nat.le_total xs.length ys.length with h | h
      · exact .inl (by simp; omega)
      · exact .inr (by simp; omega)
    refine codeAny_builtin F.entry_extend_loop ?_
    rw [Around.under_plainId F.plain_extend_loop _]
    show wpAny _ A.in1 (pyNext (.ref z) >>= _) _ _ s
    have fin : ∀ h' : Heap, (∀ c o, c ≠ z → c ≠ TI → c ≠ TO → c ≠ i1 → c ≠ i2 → s.heap.get? c = some o → h'.get? c = some o) → R (.ok (.ret res)) { s with heap := h' } := fun h' hkp => by
      refine hR H _ Ts (I.turnedL (t' := s.toks) (ch := [z, TI, TO, i1, i2]) (fun c o hb q => hkp c o (fun q' => hb (by simp [q'])) (fun q' => hb (by simp [q'])) (fun q' => hb (by simp [q'])) (fun q' => hb (by simp [q'])) (fun q' => hb (by simp [q'])) q) hf) hS (hTl.trans hin) hT (fun c u _ e => e) fun T hT => .inl hT
    rcases hz.st with ⟨h1, x, y, h2⟩ | ⟨T, f, oT, h1, h2, h3, h4, h5, h6⟩
    · exact wpAny_bind (wpAny_pyNext_zip_end hh D h1 hz.ti h2 hz.j1 hz.j2 p.isList p2.isList hend fun h' hk => wpAny_pure (fin h' fun c o c1 c2 c3 c4 c5 e => hk c o c1 c3 c4 c5 e))
    · exact wpAny_bind (wpAny_pyNext_zip_end_held hh D h1 h2 hz.ti hz.j1 hz.j2 p.isList p2.isList hend fun h' hk => wpAny_pure (fin h' fun c o c1 c2 c3 c4 c5 e => hk c o c1 c4 c5 e))
  | succ k ih =>
    intro i s H Ts hk hi I hf hz hS hTl hqa hqb hT hR
    obtain ⟨its, rv, p, _⟩ := I.list hqa
    obtain ⟨its2, rv2, p2, _⟩ := I.list hqb
    obtain ⟨x, hx⟩ : ∃ x, xs[i]? = some x := ⟨xs[i]'(by omega), List.getElem?_eq_getElem (by omega)⟩
    obtain ⟨y, hy⟩ : ∃ y, ys[i]? = some y := ⟨ys[i]'(by omega), List.getElem?_eq_getElem (by omega)⟩
    obtain ⟨u, hu, ru⟩ := rv.get hx
    obtain ⟨u2, hu2, ru2⟩ := rv2.get hy
    refine codeAny_builtin F.entry_extend_loop ?_
    rw [Around.under_plainId F.plain_extend_loop _]
    show wpAny _ A.in1 (pyNext (.ref z) >>= _) _ _ s
    have lt : ∀ {c o}, s.heap.get? c = some o → s.heap.objs.size ≠ c := fun e => Nat.ne_of_gt (Heap.lt_size e)
    have hz1 : ∃ oz, s.heap.get? z = some oz := by
      rcases hz.st with ⟨h1, _⟩ | ⟨_, _, _, h1, _⟩
      · exact ⟨_, h1⟩
      · exact ⟨_, h1⟩
    have nSz : s.heap.objs.size ≠ z := let ⟨_, e⟩ := hz1; lt e
    have nS1 : s.heap.objs.size ≠ i1 := let ⟨_, e, _⟩ := hz.j1; lt e
    have nS2 : s.heap.objs.size ≠ i2 := let ⟨_, e, _⟩ := hz.j2; lt e
    have nSO : s.heap.objs.size ≠ TO := let ⟨_, e⟩ := hz.to; lt e
    have nSS : s.heap.objs.size ≠ S := by
      obtain ⟨_, _, _, _, _, e⟩ := I.lstM hS
      exact lt e
    have hfr : H s.heap.objs.size = none := I.hok.fresh (Nat.le_refl _)
    have step : ∀ h' : Heap, h'.IsListIter i1 a (i + 1) → h'.IsListIter i2 b (i + 1) → IsPair h' s.heap.objs.size u u2 → IsPair h' TI (.ref i1) (.ref i2) → (∃ o, h'.get? TO = some o) → (∃ (T : Addr) (f : Bool) (oT : Obj), IsZipHeld h' z TI TO T f ∧ h'.get? T = some oT ∧ T ≠ z ∧ T ≠ i1 ∧ T ≠ i2 ∧ T ≠ S) →
        (∀ c o, c ≠ z → c ≠ TI → c ≠ TO → c ≠ i1 → c ≠ i2 → s.heap.get? c = some o → h'.get? c = some o) →
        wpAny (model X.prog X.w) A.in1 (do updateSeq S (·.push (.ref s.heap.objs.size)); again (.builtin "list.extend.loop" ⟨[.ref S, .ref z, res], []⟩))
          (fun fin s' => match fin with | .done f => R (.ok f) s' | .again c' => c'.quiet = true ∧ codeAny (model X.prog X.w) A c' R s') (fun e s' => R (.error e) s') { s with heap := h' } := by
      intro h' a3 a4 a5 ati ato ast hkp
      have new : ObjOk X.prog X.w (upd H s.heap.objs.size (.tup [x, y])) h' s.heap.objs.size (.tup [x, y]) :=
        ⟨by show 2 ≤ sizeLine; decide, [u, u2], .cons ru (.cons ru2 .nil), ⟨_, a5, rfl, _, rfl⟩⟩
      have I1 : Inv X pins σ (upd H s.heap.objs.size (.tup [x, y])) { s with heap := h' } :=
        I.turnedNew (t' := s.toks) (ch := [z, TI, TO, i1, i2]) (fun c o hb q => hkp c o (fun q' => hb (by simp [q'])) (fun q' => hb (by simp [q'])) (fun q' => hb (by simp [q'])) (fun q' => hb (by simp [q'])) (fun q' => hb (by simp [q'])) q) hf (Nat.le_refl _) new
      have hS1 : upd H s.heap.objs.size (.tup [x, y]) S = some (.lst (Ts.map V.ref)) := by rw [upd_ne (Ne.symm nSS)]; exact hS
      obtain ⟨zz, its3, n3, r3, hl3, e3⟩ := I1.lstM hS1
      have hlen3 : its3.length = Ts.length := by rw [← r3.length, List.length_map]
      refine wpAny_bind (wpAny_updateSeq e3 rfl (wpAny_pure ⟨plainId_quiet F.plain_extend_loop _, ?_⟩) (by simp; omega) (by simp; omega))
      have I2 := I1.lset (t' := s.toks) (f := (·.push (.ref s.heap.objs.size))) (ys := Ts.map V.ref ++ [V.ref s.heap.objs.size]) (its' := its3 ++ [.ref s.heap.objs.size]) hS1 e3 (by simp) (r3.append (.cons (show RelV (V.ref s.heap.objs.size) (.ref s.heap.objs.size) from rfl) .nil)) (by rw [List.length_append, List.length_map, List.length_singleton]; omega)
      have hS2 : upd (upd H s.heap.objs.size (.tup [x, y])) S (.lst (Ts.map V.ref ++ [V.ref s.heap.objs.size])) S = some (.lst ((Ts ++ [s.heap.objs.size]).map V.ref)) := by rw [upd_same, List.map_append]; rfl
      have hk2 : ∀ c w, c ≠ S → H c = some w → upd (upd H s.heap.objs.size (.tup [x, y])) S (.lst (Ts.map V.ref ++ [V.ref s.heap.objs.size])) c = some w := fun c w hc e => by
        rw [upd_ne hc, upd_ne (ne_of_none e hfr)]; exact e
      have oth : ∀ c o, c ≠ S → h'.get? c = some o → (h'.update S (Obj.mapSeq (·.push (.ref s.heap.objs.size)))).get? c = some o := fun c o hc e => (Heap.get?_update_other _ _ (Ne.symm hc)).trans e
      refine ih (i + 1) _ _ (Ts ++ [s.heap.objs.size]) (by omega) (by omega) I2 (fun c hc => ?_) (ZS.keep ⟨ati, a3, a4, ato, .inr ast⟩ nz nI nO n1 n2 oth) hS2 (by simp; omega) (sql_keep hqa na hk2) (sql_keep hqb nb hk2) (fun j T x' y' e1 e2 e3 => ?_) (fun H' s' Ts' J g1 g2 g3 g4 g5 => hR H' s' Ts' J g1 g2 g3 (fun c w hc e => g4 c w hc (hk2 c w hc e)) fun T hT => ?_)
      · have hn := (hf c hc).1
        have hcS : c ≠ S := by
          simp only [List.mem_cons, List.not_mem_nil, or_false] at hc
          rcases hc with e | e | e | e | e
          · rw [e]; exact nz
          · rw [e]; exact nI
          · rw [e]; exact nO
          · rw [e]; exact n1
          · rw [e]; exact n2
        have hcn : c ≠ s.heap.objs.size := by
          simp only [List.mem_cons, List.not_mem_nil, or_false] at hc
          rcases hc with e | e | e | e | e
          · rw [e]; exact Ne.symm nSz
          · rw [e]; exact Ne.symm (lt hz.ti)
          · rw [e]; exact Ne.symm nSO
          · rw [e]; exact Ne.symm nS1
          · rw [e]; exact Ne.symm nS2
        exact ⟨by rw [upd_ne hcS, upd_ne hcn]; exact hn, (hf c hc).2⟩
      · by_cases hj : j < Ts.length
        · rw [List.getElem?_append_left hj] at e1
          have e4 := hT j T x' y' e1 e2 e3
          refine hk2 T _ (fun q => ?_) e4
          rw [q, hS] at e4; cases e4
        · have hj2 : j = i := by
            have := (List.getElem?_eq_some_iff.mp e1).1
            rw [List.length_append, List.length_singleton] at this
            omega
          subst hj2
          rw [List.getElem?_append_right (by omega), show j - Ts.length = 0 by omega] at e1
          cases e1
          rw [hx] at e2
          rw [hy] at e3
          cases e2
          cases e3
          rw [upd_ne nSS, upd_same]
      · rcases g5 T hT with q | q
        · rcases List.mem_append.mp q with q | q
          · exact .inl q
          · rw [show T = s.heap.objs.size by simpa using q]
            exact .inr hfr
        · by_cases hTS : T = S
          · rw [hTS, hS2] at q; cases q
          · rw [upd_ne hTS] at q
            by_cases hTn : T = s.heap.objs.size
            · rw [hTn]; exact .inr hfr
            · rw [upd_ne hTn] at q; exact .inr q
    rcases hz.st with ⟨h1, x0, y0, h2⟩ | ⟨T, f, oT, h1, h2, h3, h4, h5, h6⟩
    · refine wpAny_bind (wpAny_pyNext_zip_item D h1 hz.ti h2 hz.j1 hz.j2 p.isList p2.isList (x := u) (y := u2) (by simpa using hu) (by simpa using hu2) fun h' a1 a2 a3 a4 a5 a6 hk => ?_)
      exact step h' a3 a4 a5 (hk _ _ D.TIz D.TITO D.TIi1 D.TIi2 hz.ti) ⟨_, a2⟩ ⟨s.heap.objs.size, false, _, a1, a5, nSz, nS1, nS2, nSS⟩ fun c o c1 c2 c3 c4 c5 e => hk c o c1 c3 c4 c5 e
    · refine wpAny_bind (wpAny_pyNext_zip_item_held D h1 h2 hz.ti hz.j1 hz.j2 p.isList p2.isList (x := u) (y := u2) (by simpa using hu) (by simpa using hu2) fun h' a1 a3 a4 a5 a6 hk => ?_)
      exact step h' a3 a4 a5 (hk _ _ D.TIz D.TIi1 D.TIi2 hz.ti) (let ⟨o, e⟩ := hz.to; ⟨o, hk _ _ D.TOz D.TOi1 D.TOi2 e⟩) ⟨T, true, oT, a1, hk _ _ h3 h4 h5 h2, h3, h4, h5, h6⟩ fun c o c1 c2 c3 c4 c5 e => hk c o c1 c4 c5 e
theorem zip_no_len : typeLookup (.type "zip") "__len__" = pure none := am_miss_of_fast (by decide +kernel)
theorem zip_no_hint : typeLookup (.type "zip") "__length_hint__" = pure none := am_miss_of_fast (by decide +kernel)
theorem hint_zip {s : Shared} {z : Addr} {Q : Bool → Shared → Prop} {E : Value → Shared → Prop} (hT : s.TypeIs (.ref z) "zip") (h : Q true s) : wpAny (model X.prog X.w) A (Builtin.List.listLengthHint (.ref z)) Q E s := by
  unfold Builtin.List.listLengthHint
  refine wpAny_bind (wpAny_specialOf hT zip_no_len ?_)
  dsimp only
  refine wpAny_ite_split (fun hab => absurd hab (by decide)) (fun _ => ?_)
  refine wpAny_ite_split (fun hab => absurd hab (by decide)) (fun _ => ?_)
  refine wpAny_bind (wpAny_specialOf hT zip_no_hint ?_)
  exact wpAny_pure h
theorem lz_call {H : Hp} {s : Shared} {a b z TI TO i1 i2 : Addr} {xs ys : List V} {E : Value → Shared → Prop} {Q : VK} (D : ZipApart z TI TO i1 i2 a b) (hh : A.handled = none) (I : Inv X pins σ H s) (hf : ∀ c ∈ [z, TI, TO, i1, i2], FpOk X pins H c)
    (hz : IsZip s.heap z TI TO .none) (hTI : IsPair s.heap TI (.ref i1) (.ref i2)) (hTO : ∃ x y, IsPair s.heap TO x y) (h1 : s.heap.IsListIter i1 a 0) (h2 : s.heap.IsListIter i2 b 0) (hqa : SqL X.K H a xs) (hqb : SqL X.K H b ys) (hn : min xs.length ys.length + 2 ≤ sizeLine)
    (hQ : ∀ (S : Addr) (H' : Hp) (Ts : List Addr), H S = none → H' S = some (.lst (Ts.map V.ref)) → Ts.length = min xs.length ys.length → (∀ (j : Nat) (T : Addr) (x y : V), Ts[j]? = some T → xs[j]? = some x → ys[j]? = some y → H' T = some (.tup [x, y])) →
      (∀ c u, H c = some u → H' c = some u) → (∀ T ∈ Ts, H T = none ∧ T ≠ S) → Q (.ref S) H') :
    wpAny (model X.prog X.w) A (call (.type "list") [.ref z]) (EP X pins σ Q) E s := by
  refine callType_codes (Q₁ := fun obj s₁ => obj = .ref s.heap.objs.size ∧ s₁ = { s with heap := s.heap.push { cls := .type "list", data := .seq #[] } }) PySem.F.called_list (PySem.F.typeCall_list_1 _) PySem.F.entry_list_init
    (code_list_new _ ⟨rfl, rfl⟩) fun obj s₁ h₁ => ?_
  obtain ⟨rfl, rfl⟩ := h₁
  have hS : (s.heap.push { cls := .type "list", data := .seq #[] }).get? s.heap.objs.size = some { cls := .type "list", data := .seq #[] } := Heap.get?_push_size _ rfl
  have lt : ∀ {c o}, s.heap.get? c = some o → c ≠ s.heap.objs.size := fun e => Nat.ne_of_lt (Heap.lt_size e)
  have nz : z ≠ s.heap.objs.size := lt hz
  refine ⟨⟨_, hS, rfl⟩, PySem.F.args_list_init_2 _ _, ?_⟩
  show wpAny _ _ (do let old ← Builtin.List.listItems (.ref s.heap.objs.size); Builtin.List.listUpdate (.ref s.heap.objs.size) (fun _ => #[]); letGo old.toList.reverse; Builtin.List.listExtendWith (.ref s.heap.objs.size) (.ref z) .none) _ _ _
  refine wpAny_bind ?_
  unfold Builtin.List.listItems
  refine wpAny_bind (wpAny_seqItems hS rfl (wpAny_pure ?_))
  show wpAny _ _ (updateSeq s.heap.objs.size (fun _ => #[]) >>= fun _ => letGo (#[] : Array Value).toList.reverse >>= fun _ => Builtin.List.listExtendWith (.ref s.heap.objs.size) (.ref z) .none) _ _ _
  refine wpAny_bind (wpAny_updateSeq hS rfl ?_)
  have hS₂ := Heap.get?_update_self (Obj.mapSeq (fun _ => (#[] : Array Value))) hS rfl
  have oth : ∀ b o, s.heap.get? b = some o → ((s.heap.push { cls := .type "list", data := .seq #[] }).update s.heap.objs.size (Obj.mapSeq (fun _ => (#[] : Array Value)))).get? b = some o :=
    fun b o e => (Heap.get?_update_other _ _ (Ne.symm (lt e))).trans (Heap.get?_push_of_some _ e)
  refine wpAny_bind (wpAny_letGo ?_)
  generalize hh1 : (s.heap.push { cls := .type "list", data := .seq #[] }).update s.heap.objs.size (Obj.mapSeq (fun _ => (#[] : Array Value))) = g1 at hS₂ oth
  unfold Builtin.List.listExtendWith
  have hTz : ({ s with heap := g1 } : Shared).TypeIs (.ref z) "zip" := ⟨_, oth _ _ hz, rfl⟩
  refine wpAny_bind (wpAny_typeOf hTz ?_)
  have hsr : Builtin.List.listSameRef (.ref s.heap.objs.size) (.ref z) = false := by simp [Builtin.List.listSameRef, Ne.symm nz]
  simp only [hsr, show (Value.type "zip" == Value.type "list") = false by decide, show (Value.type "zip" == Value.type "tuple") = false by decide, Bool.or_false, Bool.false_eq_true, if_false]
  refine wpAny_bind (wpAny_pyIter_zip (oth _ _ hz) ?_)
  refine wpAny_bind (wpAny_holding (hint_zip hTz ?_))
  refine wpAny_ite_split (fun _ => ?_) (fun hno => absurd (by simp) hno)
  refine wpAny_bind (wpAny_rule ?_)
  refine wpAny_bind ?_
  show wpAny _ _ (updateSeq s.heap.objs.size (·.push .none) >>= fun _ => updateSeq s.heap.objs.size (·.pop)) _ _ _
  refine wpAny_bind (wpAny_updateSeq hS₂ rfl ?_)
  have hS₃ := Heap.get?_update_self (Obj.mapSeq (·.push Value.none)) hS₂ rfl
  refine wpAny_updateSeq (hz := by seq_fits) hS₃ rfl ?_
  have hS₄ := Heap.get?_update_self (Obj.mapSeq (·.pop)) hS₃ rfl
  have oth2 : ∀ b o, s.heap.get? b = some o → ((g1.update s.heap.objs.size (Obj.mapSeq (·.push Value.none))).update s.heap.objs.size (Obj.mapSeq (·.pop))).get? b = some o :=
    fun b o e => (Heap.get?_update_other _ _ (Ne.symm (lt e))).trans ((Heap.get?_update_other _ _ (Ne.symm (lt e))).trans (oth b o e))
  have hno : H s.heap.objs.size = none := I.hok.fresh (Nat.le_refl _)
  have I2 := I.laid (a := s.heap.objs.size) (o := .lst []) (t' := s.toks) oth2 (Nat.le_refl _) (show ObjOk X.prog X.w _ _ _ (.lst []) from ⟨Nat.zero_le _, [], _, .nil, hS₄⟩)
  have hk2 : ∀ c w, H c = some w → upd H s.heap.objs.size (.lst []) c = some w := fun c w e => by rw [upd_ne (ne_of_none e hno)]; exact e
  have sk : ∀ {l : Addr} {vs : List V}, SqL X.K H l vs → SqL X.K (upd H s.heap.objs.size (.lst [])) l vs := fun {l vs} h => by
    rcases h with (h | ⟨o, h⟩) | h
    · exact .inl (.inl (hk2 _ _ h))
    · exact .inl (.inr ⟨o, hk2 _ _ h⟩)
    · exact .inr h
  obtain ⟨its, rv, p, _⟩ := I.list hqa
  obtain ⟨its2, rv2, p2, _⟩ := I.list hqb
  obtain ⟨x0, y0, hTO⟩ := hTO
  refine wpAny_pure ⟨plainId_quiet PySem.F.plain_extend_loop _, lz_loop (A := A.in1) D hh nz (lt hTI) (lt hTO) (let ⟨_, e, _⟩ := h1; lt e) (let ⟨_, e, _⟩ := h2; lt e) (Nat.ne_of_lt p.lt) (Nat.ne_of_lt p2.lt) hn _ 0 _ _ [] rfl (Nat.zero_le _) I2 (fun c hc => ?_) ⟨oth2 _ _ hTI, h1.at fun o e => oth2 _ o e, h2.at fun o e => oth2 _ o e, ⟨_, oth2 _ _ hTO⟩, .inl ⟨oth2 _ _ hz, x0, y0, oth2 _ _ hTO⟩⟩ upd_same rfl (sk hqa) (sk hqb) (fun j T x y e => nomatch e) fun H' s' Ts' J g1 g2 g3 g4 g5 => ?_⟩
  · have hcS : c ≠ s.heap.objs.size := by
      simp only [List.mem_cons, List.not_mem_nil, or_false] at hc
      rcases hc with e | e | e | e | e
      · rw [e]; exact nz
      · rw [e]; exact lt hTI
      · rw [e]; exact lt hTO
      · rw [e]; obtain ⟨_, e, _⟩ := h1; exact lt e
      · rw [e]; obtain ⟨_, e, _⟩ := h2; exact lt e
    exact ⟨by rw [upd_ne hcS]; exact (hf c hc).1, (hf c hc).2⟩
  · refine ⟨rfl, .ref s.heap.objs.size, H', J, rfl, hQ _ H' Ts' hno g1 g2 g3 (fun c w e => g4 c w (ne_of_none e hno) (hk2 c w e)) fun T hT => ?_⟩
    rcases g5 T hT with q | q
    · cases q
    · by_cases hTS : T = s.heap.objs.size
      · rw [hTS, upd_same] at q; cases q
      · rw [upd_ne hTS] at q; exact ⟨q, hTS⟩
end
section
variable {X : Cx} {fa : Gl0} {W : WX} {e e2 : Expr} {pos : Pos}
def tZl (K : PySem.W.Frag) (ta : TA) : TE := fun s H Q => ta s H fun vs H1 => ∃ (a b : Addr) (xs ys : List V), vs = [.ref a, .ref b] ∧ SqL K H1 a xs ∧ SqL K H1 b ys ∧ min xs.length ys.length + 2 ≤ sizeLine ∧
  ∀ (S : Addr) (H' : Hp) (Ts : List Addr), H1 S = none → H' S = some (.lst (Ts.map V.ref)) → Ts.length = min xs.length ys.length → (∀ (j : Nat) (T : Addr) (x y : V), Ts[j]? = some T → xs[j]? = some x → ys[j]? = some y → H' T = some (.tup [x, y])) →
      (∀ c u, H1 c = some u → H' c = some u) → (∀ T ∈ Ts, H1 T = none ∧ T ≠ S) → Q (.ref S) H'
theorem pe_zl {ta : TA} {p p2 q : Pos} (hc : X.calm = true) (hg : Gl X "list") (hm : X.mg "list" = none) (hg2 : Gl X "zip") (hm2 : X.mg "zip" = none) (ha : PA X [e, e2] ta)
    (hs : starEach [e, e2] X.env = (false, eval e X.env) :: starEach [e2] X.env) (hpl : (backTo q (starEach [e2] X.env)).any (·.1) = false) :
    PE X (.Call (.Name "list" p) [.Call (.Name "zip" p2) [e, e2] [] q] [] pos) (tZl X.K ta) := ⟨fun pins s σ H Q I h => by
  refine Call_ (ld_blt I hg hm boot_list (PyProof.Rows.callWith_type1 (PyProof.Rows.args_cons ?_ rfl) rfl rfl))
  refine Call_ (ld_blt I hg2 hm2 PyProof.Rows.boot_zip (PyProof.Rows.callWith_type1 (thn (ha.run q pins s σ H _ I h) fun us s1 ⟨vs, H1, I1, r1, q1⟩ => ?_) hs hpl))
  obtain ⟨a, b, xs, ys, ex, hqx, hqy, hn, q1⟩ := q1
  subst ex
  cases r1 with
  | cons r rr =>
    cases rr with
    | cons r' rr =>
      cases rr
      cases r
      cases r'
      obtain ⟨its, rv, p1, _⟩ := I1.list hqx
      obtain ⟨its2, rv2, p2, _⟩ := I1.list hqy
      have la : a < s1.heap.objs.size := p1.lt
      have lb : b < s1.heap.objs.size := p2.lt
      refine call_zip_2 p1.isList p2.isList fun h' hz hTI hTO h1 h2 hsz hk => PyProof.Rows.args_nil ?_
      have I2 : Inv X pins σ H1 { s1 with heap := h' } := I1.kept (t' := s1.toks) hk
      refine lz_call (PySem.W.ktu_apart s1.heap.objs.size a b la lb) (I1.ok.hd hc) I2 (fun c hcm => ?_) hz hTI ⟨_, _, hTO⟩ h1 h2 hqx hqy hn q1
      have e' : c = s1.heap.objs.size + 4 ∨ c = s1.heap.objs.size + 2 ∨ c = s1.heap.objs.size + 3 ∨ c = s1.heap.objs.size ∨ c = s1.heap.objs.size + 1 := by simpa using hcm
      have hle : s1.heap.objs.size ≤ c := by
        rcases e' with z | z | z | z | z
        · rw [z]; exact Nat.le_add_right _ _
        · rw [z]; exact Nat.le_add_right _ _
        · rw [z]; exact Nat.le_add_right _ _
        · rw [z]; exact Nat.le_refl _
        · rw [z]; exact Nat.le_add_right _ _
      exact I1.fpOk hle (I1.hok.fresh hle)⟩
def zpD (xs ys : List D) : List D := (xs.zip ys).map fun z => D.tup [z.1, z.2]
/-- list(zip(a, b)) -/
def zipLD (ds : List D) (S : Sto) : Option (D × Sto) := match ds with
  | [.loc l, .loc k] => match lstAt S l, lstAt S k with
    | some xs, some ys => if xs.length + 2 ≤ LINE then some (.loc S.length, S ++ [.lst (zpD xs ys)]) else none
    | _, _ => none
  | _ => none
theorem rvs_of {R : RC} {p : List Addr} {H : Hp} : ∀ {ds : List D} {vs : List V}, ds.length = vs.length → (∀ (i : Nat) (d : D) (v : V), ds[i]? = some d → vs[i]? = some v → RV R p H d v) → RVs R p H ds vs
  | [], [], _, _ => .nil
  | d :: ds, v :: vs, hl, h => .cons (h 0 d v rfl rfl) (rvs_of (by simpa using hl) fun i d v e1 e2 => h (i + 1) d v (by simpa using e1) (by simpa using e2))
theorem f_zl {f g : E D} {p p2 q : Pos} (hc : X.calm = true) (hg : Gl X "list") (hm : X.mg "list" = none) (hg2 : Gl X "zip") (hm2 : X.mg "zip" = none) (ha : PA X [e, e2] (xA (rc X fa) W (eAll [f, g])))
    (hs : starEach [e, e2] X.env = (false, eval e X.env) :: starEach [e2] X.env) (hpl : (backTo q (starEach [e2] X.env)).any (·.1) = false) :
    PE X (.Call (.Name "list" p) [.Call (.Name "zip" p2) [e, e2] [] q] [] pos) (xE (rc X fa) W (eOpN zipLD [f, g])) :=
  impE (pe_zl hc hg hm hg2 hm2 ha hs hpl) fun s H Q ⟨p, n, S, rs, re, h⟩ => xA_of rs re h fun ds p1 S1 H1 vs rs1 re1 hp t rvs h1 => by
    obtain ⟨d3, S3, e3, h3⟩ := aft_lft h1
    unfold zipLD at e3
    split at e3
    · rename_i l k
      split at e3
      · rename_i xs ys hx hy
        split at e3
        · rename_i hb
          cases e3
          cases rvs with
          | cons r1 r2 =>
          cases r2 with
          | cons r2 r3 =>
          cases r3
          cases r1 with
          | @loc _ a hl =>
          cases r2 with
          | @loc _ b hl2 =>
          obtain ⟨us, g1, g2⟩ := rs1.list hl hx
          obtain ⟨ws, g3, g4⟩ := rs1.list hl2 hy
          have e1 := g2.length
          have e2' := g4.length
          refine ⟨a, b, us, ws, rfl, .inl (.inl g1), .inl (.inl g3), by rw [line_eq]; omega, fun A H' Ts hno hS hTl hT hk hTn => ?_⟩
          have nA := rs1.nin hno
          have T : Tm p1 H1 (p1 ++ [A]) H' := ⟨fun c u nc e => ⟨(fun z => by
            rcases List.mem_append.mp z with z | z
            · exact nc z
            · rw [show c = A by simpa using z, hno] at e; cases e), hk c u e⟩, fun c o u e => hk c _ e⟩
          have T0 : Tm p1 H1 p1 H' := ⟨fun c u nc e => ⟨nc, hk c u e⟩, fun c o u e => hk c _ e⟩
          have rs' := rs1.mono T0 fun c u _ e => hk c u e
          have rsN : RS (rc X fa) (p1 ++ [A]) (S1 ++ [.lst (zpD xs ys)]) H' := by
            refine rs'.adopt nA ⟨_, hS, rvs_of ?_ fun i d v e4 e5 => ?_⟩ (rs1.ng hno) fun l' o' c e4 e5 => ?_
            · unfold zpD
              simp
              omega
            · unfold zpD at e4
              rw [List.getElem?_map] at e4 e5
              obtain ⟨z, e6, rfl⟩ := Option.map_eq_some_iff.mp e4
              obtain ⟨T', e7, rfl⟩ := Option.map_eq_some_iff.mp e5
              obtain ⟨h8, h9⟩ := List.getElem?_zip_eq_some.mp e6
              obtain ⟨x, hx1, hx2⟩ := g2.get h8
              obtain ⟨y, hy1, hy2⟩ := g4.get h9
              have hn := hTn T' (List.mem_of_getElem? e7)
              refine .tup (.inl ⟨fun z => ?_, .inl (hT i T' x y e7 hx1 hy1)⟩) (.cons (hx2.mono (pre_snoc _ _) T) (.cons (hy2.mono (pre_snoc _ _) T) .nil))
              rcases List.mem_append.mp z with z | z
              · exact rs1.nin hn.1 z
              · exact hn.2 (by simpa using z)
            · obtain ⟨u, hu⟩ := (rs1.at_ l' o' c e4 e5).there
              exact (rs1.at_ l' o' c e4 e5).mono (pre_snoc _ _) T ((hk c u hu).trans hu.symm)
          have hlen : (p1 ++ [A])[S1.length]? = some A := by rw [← rs1.len]; simp
          exact h3 (p1 ++ [A]) H' (pre_snoc _ _) T rsN _ (.loc hlen)
        · cases e3
      · cases e3
    · cases e3
end
end Jm

set_option Elab.async false
set_option linter.all false
set_option maxRecDepth 100000
set_option maxHeartbeats 4000000
/-! Jm, part Du: dict(pairs), d.update(e), {k: v} with a nested key. -/
noncomputable section
namespace Jm
open PySem PySem.Spec PyProof.Rows L2
def mrgK (kvs more : List (Key × D)) : List (Key × D) := more.foldl (fun acc kv => kvPut acc kv.1 kv.2) kvs
def prOf (d : D) : Option (Key × D) := match d with
  | .tup [k, v] => (keyD k).map fun key => (key, v)
  | _ => none
def prsOf : List D → Option (List (Key × D))
  | [] => some []
  | d :: ds => match prOf d, prsOf ds with
    | some x, some xs => some (x :: xs)
    | _, _ => none
def dictP : Prim := fun ds S => match ds with
  | [.loc l] => match lstAt S l with
    | some xs => match prsOf xs with
      | some kvs => some (.loc S.length, S ++ [.dct (mrgK [] kvs)])
      | none => none
    | none => none
  | _ => none
def updD : MPrim := fun d ds S => match d, ds with
  | .loc l, [.loc k] => if l = k then none else match S[l]?, S[k]? with
    | some (.dct xs), some (.dct ys) => if xs.length + ys.length ≤ LINE then some (.non, S.set l (.dct (mrgK xs ys))) else none
    | _, _ => none
  | _, _ => none
def eUpd (f : E D) (fs : List (E D)) : E D := eBnd f fun d => eBnd (chkDc d) fun _ => eBnd (eAll fs) fun ds _ S => lft (updD d ds S)
abbrev KP (R : RC) (p : List Addr) (H : Hp) (x : Key × D) (y : Key × V) : Prop := x.1 = y.1 ∧ RV R p H x.2 y.2
theorem kv_mrg {R : RC} {p : List Addr} {H : Hp} : ∀ {ms : List (Key × D)} {mu : List (Key × V)} {ds : List (Key × D)} {us : List (Key × V)}, Paired (KP R p H) ms mu → Paired (KP R p H) ds us → Paired (KP R p H) (mrgK ds ms) (mergeK us mu)
  | _, _, _, _, .nil, h => h
  | _, _, ds, us, .cons (a := x) (b := y) (l₁ := l) (l₂ := l2) r t, h => by
    have : Paired (KP R p H) (kvPut ds x.1 x.2) (putK us y.1 y.2) := by
      rw [r.1]
      exact kv_put h r.2
    exact kv_mrg (ms := l) (mu := l2) t this
section
variable {X : Cx} {fa : Gl0} {W : WX} {e o : Expr} {es : List Expr} {pos : Pos}
theorem prs_in {p : List Addr} {H : Hp} : ∀ {ds : List D} {vs : List V} {kvs : List (Key × D)}, RVs (rc X fa) p H ds vs → prsOf ds = some kvs →
    ∃ (ps : List Addr) (us : List (Key × V)), vs = ps.map V.ref ∧ Paired (fun p kv => SqT X.K H p [kV kv.1, kv.2]) ps us ∧ Paired (KP (rc X fa) p H) kvs us
  | _, _, _, .nil, e => by cases e; exact ⟨[], [], rfl, .nil, .nil⟩
  | _, _, kvs, @RVs.cons _ _ _ d v ds vs r rs, e => by
    have e' : (match prOf d, prsOf ds with | some x, some xs => some (x :: xs) | _, _ => none) = some kvs := e
    split at e'
    · rename_i x xs e1 e2
      cases e'
      obtain ⟨ps, us, h1, h2, h3⟩ := prs_in rs e2
      unfold prOf at e1
      split at e1
      · rename_i k w
        obtain ⟨key, ek, ex⟩ := Option.map_eq_some_iff.mp e1
        subst ex
        cases r with
        | @tup a ys _ s r2 =>
          cases r2 with
          | cons rk r3 =>
            cases r3 with
            | cons rw0 r4 =>
              cases r4
              have := key_of rk ek
              subst this
              exact ⟨a :: ps, (key, _) :: us, by rw [h1]; rfl, .cons s.sq h2, .cons ⟨rfl, rw0⟩ h3⟩
      · cases e1
    · cases e'
theorem call_dictJ (hc : X.calm = true) : CallR X (.type "dict") (xN (rc X fa) dictP) := by
  intro pins s σ H xs us Q I rr ⟨p, S, ds, d, S', rs, rv, e, q⟩
  unfold dictP at e
  split at e
  · rename_i l
    split at e
    · rename_i xs hx
      split at e
      · rename_i kvs hk
        cases e
        cases rv with
        | cons r1 r2 =>
          cases r2
          cases r1 with
          | loc hl =>
            obtain ⟨vs, g1, g2⟩ := rs.list hl hx
            obtain ⟨ps, mu, h1, h2, h3⟩ := prs_in g2 hk
            subst h1
            refine call_dictP hc pins s σ H _ us Q I rr ⟨_, ps, mu, rfl, .inl (.inl g1), h2, fun a ha => ?_⟩
            have T := Tm.all (p := p) (o := .dK (mergeK [] mu)) ha
            refine q (p ++ [a]) _ (pre_snoc _ _) T (rs.new ha ⟨_, upd_same, ?_⟩) _ (.loc (by rw [← rs.len]; simp))
            exact paired_imp (kv_mrg h3 .nil) fun x y z => ⟨z.1, z.2.mono (pre_snoc _ _) T⟩
      · cases e
    · cases e
  · cases e
theorem mt_upd (hu : X.A.units + 65 < cLine) : MtR X "dict.update" (xM (rc X fa) updD) := by
  intro pins s σ H x xs v us Q I rx rr ⟨p, S, d1, ds, d, S', rs, r1, rv, e, q⟩
  unfold updD at e
  split at e
  · rename_i l k
    split at e
    · cases e
    · rename_i hlk
      split at e
      · rename_i ls ks el ek
        split at e
        · rename_i hz
          cases e
          cases r1 with
          | @loc _ a hl =>
          cases rx
          cases rv with
          | cons rk r0 =>
          cases r0
          cases rk with
          | @loc _ c hk =>
          cases rr with
          | cons qk q0 =>
          cases q0
          cases qk
          obtain ⟨u1, g1, g2⟩ := rs.at_ l _ a el hl
          obtain ⟨u2, f1, f2⟩ := rs.at_ k _ c ek hk
          obtain ⟨z, hd, vs, rel, dd⟩ := dk_of I.hok g1
          obtain ⟨z2, hd2, vs2, rel2, dd2⟩ := dk_of I.hok f1
          have hne : a ≠ c := fun z => hlk (by
            obtain ⟨h1, x1⟩ := List.getElem?_eq_some_iff.mp hl
            obtain ⟨h2, x2⟩ := List.getElem?_eq_some_iff.mp hk
            exact (List.getElem_inj rs.nd).mp (x1.trans (z.trans x2.symm)))
          have l1 : ls.length = u1.length := Paired.length g2
          have l2 : ks.length = u2.length := Paired.length f2
          have lm := length_mergeK u2 u1
          refine call_meetsIn PySem.F.slot_dict_update dd.typeIs PySem.F.entry_dict_update (PySem.F.args_dict_update_2 _ _) (meets_dict_update (mixKind X.prog X.w) a c hne hd2) ⟨vs, vs2, dd, dd2, by rw [← rel.length, ← rel2.length, ← l1, ← l2, line_eq]; exact hz, fun h' dd' _ hs => ?_⟩
          have he : ∃ q, h'.get? a = some q := let ⟨q, _, _, hq, _⟩ := dd'; ⟨q, hq⟩
          have I' := d_write (t' := s.toks) (ob := .dK (mergeK u1 u2)) I (by rw [g1]; exact True.intro) hs he (dk_new (by rw [line_eq]; omega) hd (KV.merge rel2 rel) dd')
          have T := Tm.mut (H := H) (o := .dK (mergeK u1 u2)) (List.mem_of_getElem? hl) (nfz_d g1)
          have pre := List.prefix_refl p
          refine ⟨.non, _, I', rfl, q p _ pre T (rs.put el hl (nfz_d g1) ⟨_, upd_same, ?_⟩) .non .non⟩
          exact paired_imp (kv_mrg f2 g2) fun x y z => ⟨z.1, z.2.mono pre T⟩
        · cases e
      · cases e
  · cases e
theorem f_upd {f : E D} {fs : List (E D)} {apos : Pos} (hu : X.A.units + 65 < cLine) (ho : PE X o (xE (rc X fa) W f)) (ha : PA X (e :: es) (xA (rc X fa) W (eAll fs)))
    (hbase : attributeBase o "update" X.env (eval o X.env) = eval o X.env)
    (hfew : ((backTo pos (starEach (e :: es) X.env)).all (fun x => !x.1) && (backToKw pos (keywordEach [] X.env)).all (fun x => x.1.isSome)
      && decide ((e :: es).length + ([] : List Keyword).length + (if ([] : List Keyword).isEmpty then 0 else 1) < 30)) = true)
    (hline : (apos.endLine == pos.line) = true) (hs : starEach (e :: es) X.env = (false, eval e X.env) :: starEach es X.env) (hplain : (backTo pos (starEach es X.env)).any (·.1) = false) :
    PE X (.Call (.Attribute o "update" apos) (e :: es) [] pos) (xE (rc X fa) W (eUpd f fs)) :=
  impE (pe_bmP PySem.F.plainAttrs_dict PySem.F.slot_dict_update PySem.F.type_dict_update (mt_upd (fa := fa) hu) ho ha hbase hfew hline hs hplain) fun s H Q ⟨p, n, S, rs, re, h⟩ => xE_of rs re h fun d p1 S1 H1 v rs1 re1 hp tm rv h1 => by
    obtain ⟨ht, h2⟩ := dc_in h1
    refine ⟨ty_dict rs1 rv ht, xA_of rs1 re1 h2 fun ds p2 S2 H2 vs rs2 re2 hp2 t2 rvs h3 => ?_⟩
    obtain ⟨d3, S3, e3, h4⟩ := aft_lft h3
    exact ⟨p2, S2, d, ds, d3, S3, rs2, rv.mono hp2 t2, rvs, e3, h4⟩
/-- {k: v} with a nested key: the dict is an object of the store from the beginning -/
def fDctN (l : Nat) (k v : D) : E D := fun _ S => match tupN k, S[l]? with
  | some key, some (.dct []) => .ok (.loc l) (S.set l (.dcN [(key, v)]))
  | _, _ => .bad
def eDctN (fk fv : E D) : E D := fun n S => eBnd fk (fun k => eBnd fv fun v => fDctN S.length k v) n (S ++ [.dct []])
theorem f_dctN {k v : Expr} {fk fv : E D} (hu : X.A.units + 65 < cLine) (hk : PE X k (xE (rc X fa) W fk)) (hv : PE X v (xE (rc X fa) W fv)) : PE X (.Dict [some k] [v] pos) (xE (rc X fa) W (eDctN fk fv)) := by
  refine ⟨fun pins s σ H Q I hx => ?_⟩
  obtain ⟨p, n, S, rs, re, h⟩ := hx
  have hn := I.hok.fresh (Nat.le_refl s.heap.objs.size)
  have I1 := I.laid (a := s.heap.objs.size) (o := .dK []) (h' := s.heap.push { cls := .type "dict", data := .dict #[] }) (t' := s.toks) (fun _ _ q => Heap.get?_push_of_some _ q) (Nat.le_refl _) (dk_empty s.heap I.big)
  have T := Tm.all (p := p) (o := .dK []) hn
  have rs1 := rs.new hn (o := .dct []) (u := .dK []) ⟨[], upd_same, .nil⟩
  have re1 := re.mono (pre_snoc p s.heap.objs.size) T
  have h1 : Aft (rc X fa) (p ++ [s.heap.objs.size]) (upd H s.heap.objs.size (.dK [])) (eBnd fk (fun k => eBnd fv fun v => fDctN S.length k v) n (S ++ [.dct []])) (fun d p' S' H' => ∀ v, RV (rc X fa) p' H' d v → Q v H') (fun c dd H' => W c dd σ H') := Aft.later h (pre_snoc _ _) T
  have hlen : (pairTrees [some k] [v] X.env pos).length = 1 := pairTrees_length [some k] [v] X.env pos rfl rfl
  rw [arm_eval_Dict, zip_pairTrees [some k] [v] X.env pos rfl rfl, dictDisplay_pairs (pairTrees [some k] [v] X.env pos) (fun z => by rw [z] at hlen; cases hlen) (by rw [hlen]; decide)]
  refine wpAny_bind (wpAny_standAt (wpAny_bind (wpAny_subDictH (knd := nestedKind X.prog X.w) (s := s) (Q := fun d s' => wpAny (model X.prog X.w) X.A (pure (Value.ref d)) (EP X pins σ Q) X.xe s') (show X.A.units + 8 < cLine by omega) (by rw [hlen]; decide) ?_)))
  have hq : xE (rc X fa) W fk σ (upd H s.heap.objs.size (.dK [])) (fun v1 H2 => xE (rc X fa) W fv σ H2 (fun v2 H3 => ∃ p3 S3 d1 d2, RS (rc X fa) p3 S3 H3 ∧ p ++ [s.heap.objs.size] <+: p3 ∧ RV (rc X fa) p3 H3 d1 v1 ∧ RV (rc X fa) p3 H3 d2 v2 ∧
      Aft (rc X fa) p3 H3 (fDctN S.length d1 d2 n S3) (fun d p' S' H' => ∀ v, RV (rc X fa) p' H' d v → Q v H') (fun c dd H' => W c dd σ H'))) :=
    xE_of rs1 re1 h1 fun d1 p2 S2 H2 v1 rs2 re2 hp2 t2 rv1 h2 => xE_of rs2 re2 h2 fun d2 p3 S3 H3 v2 rs3 re3 hp3 t3 rv2 h3 => ⟨p3, S3, d1, d2, rs3, hp2.trans hp3, rv1.mono hp3 t3, rv2, h3⟩
  refine pairTrees_cons_walk (thn (hk.run pins _ σ _ _ I1 hq) fun u1 s1 ⟨v1, H1, I1', ru1, q1⟩ => thn (hv.run pins s1 σ H1 _ I1' q1) fun u2 s2 ⟨v2, H2, I2, ru2, p3, S3, d1, d2, rs3, hp3, rv1, rv2, h3⟩ => pairTrees_nil_walk ?_)
  unfold fDctN at h3
  split at h3
  · rename_i key ek es
    have hl : p3[S.length]? = some s.heap.objs.size := pre_get hp3 (by rw [← rs.len]; simp)
    have ro := rs3.at_ _ _ _ es hl
    obtain ⟨xs, hm, _, hd, hpair, hmut⟩ := dict_n I2 ro rfl
    cases hpair
    obtain ⟨b, rfl, rfl, hka⟩ := key_at rv1 ek ru1
    refine ⟨[(key, b, u2)], ⟨rfl, rfl, key_is I2 hka, trivial⟩, hm, fun h' tk hd' hs' => wpAny_pure ?_⟩
    have hd' : h'.DictOfH (nestedKind X.prog X.w) s.heap.objs.size [(key, b, u2)] := hd'
    have I3 : Inv X pins σ (upd H2 s.heap.objs.size (.ext (RawN X.prog X.w s.heap.objs.size [(key, b, u2)]))) { s2 with heap := h', toks := tk } := by
      refine I2.write (x := s.heap.objs.size) (e := s.heap.objs.size) hmut (.inl rfl) (fun c o hc e => (hs'.2 c hc).trans e) ?_ (n_ok (s := { s2 with heap := h', toks := tk }) (raw_of hd'))
      obtain ⟨o, es, ep, h1, _⟩ := hd'
      exact ⟨o, h1⟩
    obtain ⟨g0, g1⟩ := ro
    have hz : NFz (H2 s.heap.objs.size) := nfz_d g1.1
    have T3 := Tm.mut (H := H2) (o := .ext (RawN X.prog X.w s.heap.objs.size [(key, b, u2)])) (List.mem_of_getElem? hl) hz
    have pre := List.prefix_refl p3
    exact ⟨.ref _, _, I3, rfl, h3 p3 _ pre T3 (rs3.put es hl hz ⟨_, upd_same, by rw [line_eq]; unfold LINE; simp, hd, .cons ⟨rfl, hka.mono pre T3, v2, rv2.mono pre T3, ru2⟩ .nil⟩) _ (.loc hl)⟩
  · exact h3.elim
end
end Jm

set_option Elab.async false
set_option linter.all false
set_option maxRecDepth 100000
set_option maxHeartbeats 4000000
/-! Jm, part Dn: dict(pairs), the keys tuples within tuples. -/
noncomputable section
namespace Jm
open PySem PySem.Spec PyProof.Rows L2
def mrgN (kvs more : List (NestedKey × D)) : List (NestedKey × D) := more.foldl (fun acc kv => nPut acc kv.1 kv.2) kvs
def prOfN (d : D) : Option (NestedKey × D) := match d with
  | .tup [k, v] => (tupN k).map fun key => (key, v)
  | _ => none
def prsOfN : List D → Option (List (NestedKey × D))
  | [] => some []
  | d :: ds => match prOfN d, prsOfN ds with
    | some x, some xs => some (x :: xs)
    | _, _ => none
def dictND : Prim := fun ds S => match ds with
  | [.loc l] => match lstAt S l with
    | some xs => match prsOfN xs with
      | some kvs => some (.loc S.length, S ++ [.dcN (mrgN [] kvs)])
      | none => none
    | none => none
  | _ => none
section
variable {X : Cx} {fa : Gl0}
theorem rn_mrg {p : List Addr} {H : Hp} : ∀ {ms : List (NestedKey × D)} {mx : List (NestedKey × Addr × Value)} {kvs : List (NestedKey × D)} {xs : List (NestedKey × Addr × Value)}, Paired (RN (rc X fa) p H) ms mx → Paired (RN (rc X fa) p H) kvs xs → Paired (RN (rc X fa) p H) (mrgN kvs ms) (storedAllH xs mx)
  | _, _, _, _, .nil, h => h
  | _, _, kvs, xs, .cons (a := x) (b := y) (l₁ := l) (l₂ := l2) r t, h => by
    obtain ⟨h1, h2, v, h3, h4⟩ := r
    have : Paired (RN (rc X fa) p H) (nPut kvs x.1 x.2) (storedH xs y.1 y.2.1 y.2.2) := by
      rw [h1]
      exact rn_put h h2 h3 h4
    exact rn_mrg (ms := l) (mx := l2) t this
theorem prsN_in {pins : List (Addr × Obj)} {σ : L2.St} {H : Hp} {s : Shared} {p : List Addr} (I : Inv X pins σ H s) : ∀ {ds : List D} {vs : List V} {us : List Value} {kvs : List (NestedKey × D)}, RVs (rc X fa) p H ds vs → Vals vs us → prsOfN ds = some kvs →
    ∃ (Ts : List Addr) (xs : List (NestedKey × Addr × Value)), us = Ts.map Value.ref ∧ Ts.length = xs.length ∧ Paired (RN (rc X fa) p H) kvs xs ∧ ∀ (j : Nat) (T : Addr) (y : NestedKey × Addr × Value), Ts[j]? = some T → xs[j]? = some y → s.heap.IsTuple T #[.ref y.2.1, y.2.2]
  | _, _, _, _, .nil, .nil, e => by cases e; exact ⟨[], [], rfl, rfl, .nil, fun j T y h => by simp at h⟩
  | _, _, _, kvs, @RVs.cons _ _ _ d v ds vs r rs, .cons (b := u) (l₂ := us) q qs, e => by
    have e' : (match prOfN d, prsOfN ds with | some x, some xs => some (x :: xs) | _, _ => none) = some kvs := e
    split at e'
    · rename_i x xs e1 e2
      cases e'
      obtain ⟨Ts, ys, h1, h2, h3, h4⟩ := prsN_in I rs qs e2
      unfold prOfN at e1
      split at e1
      · rename_i k w
        obtain ⟨key, ek, ex⟩ := Option.map_eq_some_iff.mp e1
        subst ex
        cases r with
        | @tup a zs _ st r2 =>
          cases q
          obtain ⟨its, rvs, pl, _⟩ := I.tuple st.sq
          cases r2 with
          | cons rk r3 =>
            cases r3 with
            | cons rw0 r4 =>
              cases r4
              cases rvs with
              | cons qk q3 =>
                cases q3 with
                | cons qw q4 =>
                  cases q4
                  obtain ⟨b, rfl, rfl, hk⟩ := key_at rk ek qk
                  obtain ⟨o, o1, o2, n, o3⟩ := pl
                  refine ⟨a :: Ts, (key, b, _) :: ys, by rw [h1]; rfl, by simp [h2], .cons ⟨rfl, hk, _, rw0, qw⟩ h3, fun j T y hj hy => ?_⟩
                  cases j with
                  | zero =>
                    cases hj
                    cases hy
                    exact ⟨o, o1, o2, n, o3⟩
                  | succ j => exact h4 j T y (by simpa using hj) (by simpa using hy)
      · cases e1
    · cases e'
theorem call_dictN (hc : X.calm = true) (hu : X.A.units + 65 < cLine) : CallR X (.type "dict") (xN (rc X fa) dictND) := by
  intro pins s σ H xs us Q I rr ⟨p, S, ds, d, S', rs, rv, e, q⟩
  unfold dictND at e
  split at e
  · rename_i l
    split at e
    · rename_i dl hx
      split at e
      · rename_i kvs hk
        cases e
        cases rv with
        | cons r1 r2 =>
          cases r2
          cases r1 with
          | @loc _ a hl =>
            rw [Vals.ref1 rr]
            obtain ⟨vs, g1, g2⟩ := rs.list hl hx
            obtain ⟨its, rvs, pl, hz⟩ := I.list (xs := vs) (.inl (.inl g1))
            obtain ⟨Ts, ys, rfl, h2, h3, h4⟩ := prsN_in I g2 rvs hk
            obtain ⟨o, n, ho, hcl, hd, hdat⟩ := pl
            have hz2 : ys.length ≤ sizeLine := by rw [← h2, ← List.length_map (f := Value.ref), ← rvs.length]; exact hz
            clear hz
            have hps : ∀ (j : Nat) (k v : Value), (ys.map fun y => (Value.ref y.2.1, y.2.2))[j]? = some (k, v) → ∃ y, ys[j]? = some y ∧ k = .ref y.2.1 ∧ v = y.2.2 := by
              intro j k v hj
              rw [List.getElem?_map] at hj
              obtain ⟨y, e1, e2⟩ := Option.map_eq_some_iff.mp hj
              injection e2 with e2 e3
              exact ⟨y, e1, e2.symm, e3.symm⟩
            refine PySem.call_dict_pairsH (knd := nestedKind X.prog X.w) (ps := ys) (PairArg.list a (Ts.map Value.ref).toArray (fun j => Ts.getD j 0) (ys.map fun y => (Value.ref y.2.1, y.2.2))) (I.ok.hd hc) (show X.A.in1.in1.units + 8 < cLine by simp only [Around.in1_units]; omega) ⟨⟨o, n, ho, hcl, hd, hdat⟩, by simp [h2], fun j k v hj => ?_⟩ ⟨by simp, fun i key v hr => ?_⟩ (fun h' hst x hx => ?_) (by simp; omega) fun h' tk hD hkeep => ?_
            · obtain ⟨y, e1, rfl, rfl⟩ := hps j k v hj
              have hj2 : j < Ts.length := by rw [h2]; exact (List.getElem?_eq_some_iff.mp e1).1
              have hT : Ts[j]? = some Ts[j] := List.getElem?_eq_getElem hj2
              have hg : Ts.getD j 0 = Ts[j] := by rw [List.getD_eq_getElem?_getD, hT]; rfl
              refine ⟨by simp [hT, List.getD_eq_getElem?_getD], .inl ?_⟩
              show s.heap.IsTuple (Ts.getD j 0) _
              rw [hg]
              exact h4 j _ y hT e1
            · obtain ⟨y, e1, e2, e3⟩ := hps i key v hr
              exact ⟨y.1, y.2.1, by rw [e1, e3], e2⟩
            · have hkx := keys_are I h3 x (by simpa using hx)
              refine ⟨NestedIs.at (fun b ob vs n hb _ => hst b ob (Nat.ne_of_lt (Heap.lt_size hb)) (by simp) hb) _ _ hkx.1, hkx.2⟩
            · have hm : (s.heap.objs.size == sysModules) = false := beq_eq_false_iff_ne.mpr (Nat.ne_of_gt I.big)
              have hlen : (storedAllH [] ys).length ≤ sizeLine := by
                have := storedAllH_length ys []
                simp only [List.length_nil, Nat.zero_add] at this
                omega
              have ha := I.hok.fresh (Nat.le_refl s.heap.objs.size)
              have I' := I.laid (t' := tk) (a := s.heap.objs.size) (o := .ext (RawN X.prog X.w s.heap.objs.size (storedAllH [] ys))) (fun b o e => hkeep b o (by simp) e) (Nat.le_refl _) (n_ok (s := { s with heap := h', toks := tk }) (raw_of hD))
              have T := Tm.all (p := p) (o := .ext (RawN X.prog X.w s.heap.objs.size (storedAllH [] ys))) ha
              refine ⟨.ref _, _, I', rfl, q (p ++ [s.heap.objs.size]) _ (pre_snoc _ _) T (rs.new ha ⟨_, upd_same, hlen, hm, ?_⟩) _ (.loc (by rw [← rs.len]; simp))⟩
              exact paired_imp (rn_mrg h3 .nil) fun x y z => z.mono (pre_snoc _ _) T
      · cases e
    · cases e
  · cases e
def dictPP : Prim := orP dictP dictND
theorem call_dictPP (hc : X.calm = true) (hu : X.A.units + 65 < cLine) : CallR X (.type "dict") (xN (rc X fa) dictPP) := call_or (call_dictJ hc) (call_dictN hc hu)
end
end Jm

set_option Elab.async false
set_option linter.all false
set_option maxRecDepth 100000
set_option maxHeartbeats 4000000
/-! Jm, part In: instances of an own class with one field that is never written again. -/
noncomputable section
namespace Jm
open PySem PySem.Spec PyProof.Rows L2
/-- C(e, ..): m says what the field holds -/
def eMk (c : Nat) (f : Str) (m : List D → M D) (fs : List (E D)) : E D := eBnd (eAll fs) fun ds _ S => rbind (nox (m ds S)) fun x S' => .ok (.ins c f x) S'
/-- e.nm(..) of such an instance -/
def eMth (c : Nat) (nm : Str) (m : List D → M D) (fe : E D) (fs : List (E D)) : E D := eBnd fe fun d => match d with
  | .ins c' f _ => if c' = c ∧ f ≠ nm then eBnd (eAll fs) fun ds _ S => nox (m (d :: ds) S) else fun _ _ => .bad
  | _ => fun _ _ => .bad
/-- e.nm of such an instance -/
def eAtr (c : Nat) (nm : Str) (fe : E D) : E D := eBnd fe fun d _ S => match d with
  | .ins c' f x => if c' = c ∧ f = nm then .ok x S else .bad
  | _ => .bad
/-- the promise of C's own __init__: the one field is stored -/
def spI (R : RC) (c : Nat) (f : Str) (m : List D → M D) : Sp := fun vs H Q _ => ∃ (p : List Addr) (S : Sto) (ds : List D) (a dx : Addr) (us : List V), vs = .ref a :: us ∧ H a = some (.ins (R.fa c) dx []) ∧ a ∉ p ∧ RS R p S H ∧ RVs R p H ds us ∧
  Aft R p H (nox (m ds S)) (fun d p' S' H' => ∀ v, RV R p' H' d v → Q .non (upd H' a (.ins (R.fa c) dx [(f, v)]))) (fun _ _ _ => False)
abbrev noE : XK := fun _ _ _ => False
theorem passNo {P : Program} {w : World} {X : Cx} : Passes (L2.CX P w) X noE := fun _ _ _ _ _ _ _ h => by
  obtain ⟨_, _, _, _, _, _, _, _, _, _, _, _, z⟩ := h
  exact z.elim
theorem exo_ins {e C c dx : Addr} {d : Option Addr} {fs : List (Str × V)} : exo e C d ≠ .ins c dx fs := fun z => by
  have z' : HO.ext _ = HO.ins c dx fs := z
  cases z'
theorem exd_ins {e c dx : Addr} {gs fs : List (Str × V)} : exd e gs ≠ .ins c dx fs := fun z => by
  have z' : HO.ext _ = HO.ins c dx fs := z
  cases z'
mutual
theorem RV.upI {R : RC} {p : List Addr} {H : Hp} {q C dx : Addr} {o : HO} (hq : H q = some (.ins C dx [])) : ∀ {d : D} {v : V}, RV R p H d v → RV R p (upd H q o) d v
  | _, _, .non => .non
  | _, _, .bl b => .bl b
  | _, _, .int i => .int i
  | _, _, .str x => .str x
  | _, _, .ty n => .ty n
  | _, _, .tup s r => by
    refine .tup ?_ (RVs.upI hq r)
    rcases s with ⟨n, h | ⟨ob, h⟩⟩ | h
    · exact .inl ⟨n, .inl (by rw [upd_ne (ne_of h hq (fun z => nomatch z))]; exact h)⟩
    · exact .inl ⟨n, .inr ⟨ob, by rw [upd_ne (ne_of h hq (fun z => nomatch z))]; exact h⟩⟩
    · exact .inr h
  | _, _, .loc e => .loc e
  | _, _, .fn i => .fn i
  | _, _, .rng n e => .rng n (by rw [upd_ne (ne_of e hq (fun z => nomatch z))]; exact e)
  | _, _, .scr s r => by
    refine .scr ?_ (RVs.upI hq r)
    rcases s with ⟨g, n, h | ⟨ob, h⟩⟩ | h
    · exact .inl ⟨g, n, .inl (by rw [upd_ne (ne_of h hq (fun z => nomatch z))]; exact h)⟩
    · exact .inl ⟨g, n, .inr ⟨ob, by rw [upd_ne (ne_of h hq (fun z => nomatch z))]; exact h⟩⟩
    · exact .inr h
  | _, _, .sett n h r h1 h2 h3 => .sett n (by rw [upd_ne (ne_of h hq (fun z => nomatch z))]; exact h) (RVs.upI hq r) h1 h2 h3
  | _, _, .ins n h r => .ins n (by rw [upd_ne (ne_of h hq (fun z => nomatch z))]; exact h) (RV.upI hq r)
  | _, _, .exv n m h k r => .exv n m (by rw [upd_ne (ne_of h hq exo_ins)]; exact h) (by rw [upd_ne (ne_of k hq exd_ins)]; exact k) (RV.upI hq r)
  | _, _, .exv0 n h => .exv0 n (by rw [upd_ne (ne_of h hq exo_ins)]; exact h)
  | _, _, .exc e n h r => .exc e n (by rw [upd_ne (ne_of h hq (fun z => nomatch z))]; exact h) (RV.upI hq r)
  | _, _, .exc0 e => .exc0 e
theorem RVs.upI {R : RC} {p : List Addr} {H : Hp} {q C dx : Addr} {o : HO} (hq : H q = some (.ins C dx [])) : ∀ {ds : List D} {vs : List V}, RVs R p H ds vs → RVs R p (upd H q o) ds vs
  | _, _, .nil => .nil
  | _, _, .cons r rs => .cons (RV.upI hq r) (RVs.upI hq rs)
end
theorem RS.upI {R : RC} {p : List Addr} {S : Sto} {H : Hp} {q C dx : Addr} {o : HO} (rs : RS R p S H) (hq : H q = some (.ins C dx [])) (nq : q ∉ p) : RS R p S (upd H q o) :=
  ⟨rs.len, rs.nd, fun a e => by
    obtain ⟨n, u, h⟩ := rs.gt a e
    by_cases z : a = q
    · subst z; exact ⟨n, o, upd_same⟩
    · exact ⟨n, u, by rw [upd_ne z]; exact h⟩, fun l ob a e1 e2 => by
    have ne : a ≠ q := fun z => nq (by rw [← z]; exact List.mem_of_getElem? e2)
    have ro := rs.at_ l ob a e1 e2
    cases ob with
    | lst ds => obtain ⟨vs, h1, h2⟩ := ro; exact ⟨vs, by rw [upd_ne ne]; exact h1, h2.upI hq⟩
    | dct kvs => obtain ⟨vs, h1, h2⟩ := ro; exact ⟨vs, by rw [upd_ne ne]; exact h1, paired_imp h2 fun x y z => ⟨z.1, z.2.upI hq⟩⟩
    | dctZ kvs => obtain ⟨o, vs, h1, h2⟩ := ro; exact ⟨o, vs, by rw [upd_ne ne]; exact h1, paired_imp h2 fun x y z => ⟨z.1, z.2.upI hq⟩⟩
    | dcN kvs => obtain ⟨xs, h1, h2, h3, h4⟩ := ro; exact ⟨xs, by rw [upd_ne ne]; exact h1, h2, h3, paired_imp h4 fun x y ⟨z1, ⟨ds, k1, k2⟩, v, z3, z4⟩ => ⟨z1, ⟨ds, k1.upI hq, k2⟩, v, z3.upI hq, z4⟩⟩
    | dcNZ kvs => obtain ⟨o', xs, h1, h2, h3, h4⟩ := ro; exact ⟨o', xs, by rw [upd_ne ne]; exact h1, h2, h3, paired_imp h4 fun x y ⟨z1, ⟨ds, k1, k2⟩, v, z3, z4⟩ => ⟨z1, ⟨ds, k1.upI hq, k2⟩, v, z3.upI hq, z4⟩⟩⟩
section
variable {X : Cx} {fa : Gl0} {W : WX} {e o : Expr} {es : List Expr} {pos apos : Pos} {k : Nat} {g fI : Addr} {fd : FuncData} {ps : List Str} {x nm f : Str} {m : List D → M D} {fe : E D} {fs : List (E D)} {p : Pos} {c : Nat}
theorem f_mk (I : Mk X.K (fa.fa c) fI) (F : FnOk X.prog X.w X.K X.mg X.base (L2.CX X.prog X.w) k fI fd ps (spI (rc X fa) c f m)) (hr : Room (k + 1) X.A) (hg : Gl X x) (hm : X.mg x = some (.ref (fa.fa c))) (hb : Binds X.K fd ps [])
    (ha : PA X (e :: es) (xA (rc X fa) W (eAll fs))) (hdb : (x == ("__debug__" : Str)) = false) (he : starEach (e :: es) X.env = (false, eval e X.env) :: starEach es X.env) (hpl : (backTo pos (starEach es X.env)).any (·.1) = false) :
    PE X (.Call (.Name x p) (e :: es) [] pos) (xE (rc X fa) W (eMk c f m fs)) :=
  impE (pe_make (dvs := []) (ds := []) (E := noE) I F hr hg hm hb .nil passNo ha hdb he hpl) fun s H Q ⟨p, n, S, rs, re, h⟩ => xA_of rs re h fun ds p1 S1 H1 vs rs1 re1 hp t rv h1 => fun a dx na nd ne => by
    have h2 := Aft.bind h1
    have pre := List.prefix_refl p1
    have T1 : Tm p1 H1 p1 (upd H1 dx (.own a)) := Tm.new nd
    have na2 : upd H1 dx (.own a) a = none := by rw [upd_ne ne.symm]; exact na
    have T2 : Tm p1 (upd H1 dx (.own a)) p1 (upd (upd H1 dx (.own a)) a (.ins (fa.fa c) dx [])) := Tm.new na2
    have T := T1.trans T2
    have rs2 := (rs1.newT (o := .own a) nd).newT (o := .ins (fa.fa c) dx []) na2
    refine ⟨p1, S1, ds, a, dx, vs ++ [], rfl, upd_same, rs1.nin na, rs2, by rw [List.append_nil]; exact rv.mono pre T, ?_⟩
    cases er : nox (m ds S1) with
    | bad => rw [er] at h2; exact h2.elim
    | exc c fs S' =>
      exfalso
      cases em : m ds S1 with
      | bad => rw [em] at er; cases er
      | exc _ _ _ => rw [em] at er; cases er
      | ok _ _ => rw [em] at er; cases er
    | ok d S' =>
      rw [er] at h2
      intro p' H' hp' t' rs' v rv'
      obtain ⟨n1, h3⟩ := t' a _ (rs1.nin na) upd_same
      have old : ∀ b u, H1 b = some u → upd (upd H1 dx (.own a)) a (.ins (fa.fa c) dx []) b = some u ∧ b ≠ a := fun b u e => by
        have n2 : b ≠ a := ne_of_none e na
        exact ⟨by rw [upd_ne n2, upd_ne (ne_of_none e nd)]; exact e, n2⟩
      have T' : Tm p1 H1 p' (upd H' a (.ins (fa.fa c) dx [(f, v)])) := ⟨fun b u nb e => by
        obtain ⟨e2, n2⟩ := old b u e
        obtain ⟨n3, e3⟩ := t' b u nb e2
        exact ⟨n3, by rw [upd_ne n2]; exact e3⟩, fun b o' u e => by
        obtain ⟨e2, n2⟩ := old b _ e
        rw [upd_ne n2]; exact t'.fz b o' u e2⟩
      have rs3 := rs'.upI (o := .ins (fa.fa c) dx [(f, v)]) h3 n1
      have h4 := h2 p' _ hp' T' rs3
      exact ⟨rfl, aft_ok rs3 h4 (.ref a) (.ins (R := rc X fa) n1 upd_same (rv'.upI h3))⟩
theorem f_atr (hC : Cls X.K (fa.fa c)) (no : NoAttr X.K (fa.fa c) nm) (he : PE X e (xE (rc X fa) W fe)) (hb : attributeBase e nm X.env (eval e X.env) = eval e X.env) : PE X (.Attribute e nm pos) (xE (rc X fa) W (eAtr c nm fe)) :=
  impE (pe_fld he hb) fun s H Q ⟨p, n, S, rs, re, h⟩ => xE_of rs re h fun d p1 S1 H1 v rs1 re1 hp t rv h1 => by
    cases rv with
    | @ins a dx c' f x v hn hh hr =>
      have h9 : Aft (rc X fa) p1 H1 (if c' = c ∧ f = nm then .ok x S1 else .bad) _ _ := h1
      by_cases hc : c' = c ∧ f = nm
      · rw [if_pos hc] at h9
        obtain ⟨rfl, rfl⟩ := hc
        exact ⟨a, _, dx, _, v, rfl, hh, hC, no, by simp [List.lookup], aft_ok rs1 h9 v hr⟩
      · rw [if_neg hc] at h9; exact h9.elim
    | _ => exact h1.elim
theorem f_mth (hC : Cls X.K (fa.fa c)) (hm : Meth X.K (fa.fa c) nm g) (F : FnOk X.prog X.w X.K X.mg X.base (L2.CX X.prog X.w) k g fd ps (spF (rc X fa) m)) (hr : Room k X.A) (hb : Binds X.K fd ps []) (ho : PE X o (xE (rc X fa) W fe)) (ha : PA X (e :: es) (xA (rc X fa) W (eAll fs)))
    (he : starEach (e :: es) X.env = (false, eval e X.env) :: starEach es X.env) (hpl : (backTo pos (starEach es X.env)).any (·.1) = false) (hev : ∃ pl : Sem Bool, eval ((o.Attribute nm apos).Call (e :: es) [] pos) X.env = do
      let ov ← eval o X.env
      standAt apos.atName
      let (f, first) ← holding [ov] (getMethod ov nm pl)
      callWith pos f first (backTo pos (starEach (e :: es) X.env)) (backToKw pos (keywordEach [] X.env))) :
    PE X (.Call (.Attribute o nm apos) (e :: es) [] pos) (xE (rc X fa) W (eMth c nm m fe fs)) := by
  obtain ⟨pl, hev⟩ := hev
  refine impE (pe_meth (dvs := []) (ds := []) (E := noE) ho hC hm F hr hb .nil passNo ha he hpl hev) fun s H Q ⟨p, n, S, rs, re, h⟩ => xE_of rs re h fun d p1 S1 H1 v rs1 re1 hp t rv h1 => ?_
  cases rv with
  | @ins a dx c' f x v hn hh hr =>
    have h9 : Aft (rc X fa) p1 H1 ((if c' = c ∧ f ≠ nm then eBnd (eAll fs) fun ds _ S => nox (m (.ins c' f x :: ds) S) else fun _ _ => .bad) n S1) _ _ := h1
    by_cases hc : c' = c ∧ f ≠ nm
    · rw [if_pos hc] at h9
      obtain ⟨rfl, hne⟩ := hc
      refine ⟨a, dx, [(f, v)], rfl, hh, ?_, xA_of rs1 re1 h9 fun ds p2 S2 H2 vs rs2 re2 hp2 t2 rvs h2 => ⟨p2, S2, .ins c' f x :: ds, rs2, .cons ((RV.ins (R := rc X fa) hn hh hr).mono hp2 t2) (by rw [List.append_nil]; exact rvs), aft_nox h2⟩⟩
      have : (nm == f) = false := by simpa using fun z => hne z.symm
      simp [List.lookup, this]
    · rw [if_neg hc] at h9; exact h9.elim
  | _ => exact h1.elim
end
end Jm

set_option Elab.async false
set_option linter.all false
set_option maxRecDepth 100000
set_option maxHeartbeats 4000000
/-! Jm, part Rv: tuple(reversed(list)). -/
noncomputable section
namespace Jm
open PySem PySem.Spec PyProof.Rows L2
def tupRv (d : D) (S : Sto) : Option (D × Sto) := match d with
  | .loc l => (lstAt S l).map fun xs => (.tup xs.reverse, S)
  | _ => none
section
variable {X : Cx} {fa : Gl0} {W : WX} {a : Expr} {pos : Pos}
theorem f_tupRv {f : E D} {q1 q2 pos2 : Pos} (hc : X.calm = true) (hg : Gl X "tuple") (hm : X.mg "tuple" = none) (hg2 : Gl X "reversed") (hm2 : X.mg "reversed" = none) (ha : PE X a (xE (rc X fa) W f)) (na : starEach [a] X.env = (false, eval a X.env) :: starEach [] X.env) :
    PE X (.Call (.Name "tuple" q1) [.Call (.Name "reversed" q2) [a] [] pos2] [] pos) (xE (rc X fa) W (eOp1 tupRv f)) :=
  impE (RT.pe_tupRev hc hg hm hg2 hm2 ha na) fun s H Q ⟨p, n, S, rs, re, h⟩ => xE_of rs re h fun d p1 S1 H1 v rs1 re1 hp t rv h1 => by
    obtain ⟨d3, S3, e3, h3⟩ := aft_lft h1
    unfold tupRv at e3
    split at e3
    · rename_i l
      obtain ⟨xs, e1, e2⟩ := Option.map_eq_some_iff.mp e3
      cases e2
      cases rv with
      | @loc _ a hl =>
      obtain ⟨vs, g1, g2⟩ := rs1.list hl e1
      refine ⟨a, vs, rfl, .of g1, fun q hq => ?_⟩
      have T := Tm.new (p := p1) (o := .tup vs.reverse) hq
      exact h3 p1 _ (List.prefix_refl _) T (rs1.newT hq) _ (.tup (.inl ⟨rs1.nin hq, .inl upd_same⟩) (g2.rev.mono (List.prefix_refl _) T))
    · cases e3
end
end Jm

set_option Elab.async false
set_option linter.all false
set_option maxRecDepth 100000
set_option maxHeartbeats 4000000
/-! Jm, part Ea: an own exception class called with keywords, at the library's level. -/
noncomputable section
namespace Jm
open PySem PySem.Spec PyProof.Rows L2 PySem.HandSPX
section
variable {M : Model} {A : Around} {Z : Value → Shared → Prop} {hp : Heap} {gs : Array GenState} {dr : Drawn} {tk : Nat} {os : OsState}
variable {cn qn : Str} {C N : Addr} {bs bm mB : List Value} {hd : Bool} {sn : List Str} {sb : List Value} {ab : Bool} {co : Option Bool} {dd : Option Addr} {a0 a1 a2 a3 a5 : Option Value} {T nI iI : String}
theorem chk_newK (F : ExcBaseFacts T nI iI mB) (hT : ∀ Y : String, bm.contains (.type Y) = mB.contains (.type Y)) {us : List Value} {kw : List (Str × Value)} {Q : Unit → Shared → Prop}
    (hC : hp.get? C = some (excClassObj cn qn C N bs bm hd sn sb ab co dd a0 a1 a2 a3 a5 nI)) (hQ : Q () ⟨hp, gs, dr, tk, os⟩) : wpAny M A (checkBuiltinCall nI ⟨.ref C :: us, kw⟩) Q Z ⟨hp, gs, dr, tk, os⟩ := by
  have c1 : (Value.ref C :: bm).contains (.type T) = true := by rw [List.contains_cons, hT, F.hasB]; simp
  have c2 := F.noStar
  simp only [checkBuiltinCall, F.newKind, F.newSplit, F.newRow]
  repeat (first
    | refine wpAny_loadPart_at hC ?_
    | (refine wpAny_isSubtype_exc hC ?_; rw [c1])
    | refine wpAny_staticBase_exc hC ?_
    | refine wpAny_madeBy_exc hC ?_
    | simp only [bne_self_eq_false, Bool.false_eq_true, if_false]
    | wp_step)
  exact hQ
end
section
variable {P : Program} {w : World} {A : Around} {Z : Value → Shared → Prop} {R : Result → Shared → Prop} {hp : Heap} {gs : Array GenState} {dr : Drawn} {tk : Nat} {os : OsState}
variable {cn qn : Str} {C N : Addr} {bs bm mB : List Value} {hd : Bool} {sn : List Str} {sb : List Value} {ab : Bool} {co : Option Bool} {dd : Option Addr} {a0 a1 a2 a3 a5 : Option Value} {T nI iI : String}
theorem new_ownK (F : ExcBaseFacts T nI iI mB) (hT : ∀ Y : String, bm.contains (.type Y) = mB.contains (.type Y)) {us : List Value} {kw : List (Str × Value)}
    (hC : hp.get? C = some (excClassObj cn qn C N bs bm hd sn sb ab co dd a0 a1 a2 a3 a5 nI)) (hl : us.length ≤ sizeLine)
    (hR : R (.ok (.ret (.ref (hp.objs.size + 1)))) ⟨(hp.push { cls := .type "tuple", data := .seq us.toArray }).push { cls := .ref C, data := .fields #[.ref hp.objs.size, .none, .none, .none, .bool false, .none] }, gs, dr, tk, os⟩) :
    codeAny (model P w) A (.builtin nI ⟨.ref C :: us, kw⟩) R ⟨hp, gs, dr, tk, os⟩ := by
  have e1 := F.ends
  have c1 : (Value.ref C :: bm).contains (.type T) = true := by rw [List.contains_cons, hT, F.hasB]; simp
  have c2 : (Value.ref C :: bm).contains (.type "AttributeError") = false := by rw [List.contains_cons, hT, F.noAttr]; rfl
  have c3 : (Value.ref C :: bm).contains (.type "NameError") = false := by rw [List.contains_cons, hT, F.noName]; rfl
  refine codeAny_builtinAt F.entry ?_
  unfold Builtin.«BaseException.__new__»
  refine PySem.wpAt_bind ?_
  show PySem.wpAt _ _ _ (stack >>= _) _ _ _
  refine PySem.wpAt_bind (PySem.wpAt_stack fun p below => PySem.wpAt_of_wpAny ?_)
  wp_walk
  refine PySem.wpAt_of_wpAny ?_
  rw [F.owner]
  repeat (first
    | with_reducible refine wpAny_madeHere_exc F.canon hC ?_
    | with_reducible refine wpAny_loadPart_at hC ?_
    | (with_reducible refine wpAny_isSubtype_exc hC ?_; first | rw [c1] | rw [c2] | rw [c3])
    | wp_step)
  show R _ _
  rw [Heap.size_push]
  exact hR
/-- how the own __init__ is found and bound, at every heap that keeps the class -/
theorem type_callK (F : ExcBaseFacts T nI iI mB) (hT : ∀ Y : String, bm.contains (.type Y) = mB.contains (.type Y)) {us : List Value} {kw : List (Str × Value)} {fI : Addr} {Q : Fin → Shared → Prop}
    (hC : hp.get? C = some (excClassObj cn qn C N bs bm hd sn sb ab co dd a0 a1 a2 a3 a5 nI)) (hi : W.Looks (model P w) hp (typeLookup (.ref C) "__init__") (some (.ref fI)))
    (hb : ∀ self, W.Looks (model P w) hp (bindSpecial (.ref fI) self) (.ref fI, [self])) (hl : us.length ≤ sizeLine)
    (hR : codeAny (model P w) A (.call (.ref fI) ⟨.ref (hp.objs.size + 1) :: us, kw⟩)
      (fun r z => match r with | .ok (.ret v) => v = .none ∧ Q (.done (.ret (.ref (hp.objs.size + 1)))) z | .ok _ => False | .error e => Z e z)
      ⟨(hp.push (W.kdv_tup us)).push (excO C hp.objs.size), gs, dr, tk, os⟩) :
    wpAny (model P w) A (Builtin.«type.__call__» ⟨.ref C :: us, kw⟩) Q Z ⟨hp, gs, dr, tk, os⟩ := by
  repeat (first
    | with_reducible refine wpAny_loadPart_at hC ?_
    | with_reducible refine wpAny_madeBy_exc hC ?_
    | wp_step)
  refine codeAny_call_builtin_code (Code.quiet_builtin _ F.quiet) (chk_newK F hT hC ?_)
  refine new_ownK F hT hC hl ?_
  show wpAny _ _ _ _ _ _
  have kk : ∀ b o, hp.get? b = some o → ((hp.push (W.kdv_tup us)).push (excO C hp.objs.size)).get? b = some o := fun b o e => Heap.get?_push_of_some _ (Heap.get?_push_of_some _ e)
  have hC2 := kk _ _ hC
  have hg : ((hp.push (W.kdv_tup us)).push (excO C hp.objs.size)).get? (hp.objs.size + 1) = some (excO C hp.objs.size) := by heap_get
  have hself : (Value.ref C :: bm).contains (.ref C) = true := by simp
  have i2 := hi.keeps kk
  have b2 := (hb (.ref (hp.objs.size + 1))).keeps kk
  unfold isInstance
  repeat (first
    | with_reducible refine wpAny_loadPart_at hg ?_
    | (with_reducible refine wpAny_isSubtype_exc hC2 ?_; rw [hself])
    | wp_step)
  show wpAny _ _ (typeLookup (.ref C) _) _ _ _
  refine i2.at ?_
  refine wpAny_holding (wpAny_bind (b2.at ?_))
  refine wpAny_bind (wpAny_call (codeAny_mono hR fun r z h => ?_))
  rcases r with e | (v | _ | _ | _) <;> first | exact h | exact h.elim | skip
  obtain ⟨rfl, h⟩ := h
  first
    | exact wpAny_pure (wpAny_pure h)
    | (wp_walk; exact h)
theorem call_ownK (F : ExcBaseFacts T nI iI mB) (hT : ∀ Y : String, bm.contains (.type Y) = mB.contains (.type Y)) {us : List Value} {kw : List (Str × Value)} {fI : Addr}
    (hC : hp.get? C = some (excClassObj cn qn C N bs bm hd sn sb ab co dd a0 a1 a2 a3 a5 nI)) (hi : W.Looks (model P w) hp (typeLookup (.ref C) "__init__") (some (.ref fI)))
    (hb : ∀ self, W.Looks (model P w) hp (bindSpecial (.ref fI) self) (.ref fI, [self])) (hl : us.length ≤ sizeLine)
    (hR : codeAny (model P w) (A.under (.builtin "type.__call__" ⟨.ref C :: us, kw⟩)) (.call (.ref fI) ⟨.ref (hp.objs.size + 1) :: us, kw⟩) (W.InitBack (hp.objs.size + 1) R) ⟨(hp.push (W.kdv_tup us)).push (excO C hp.objs.size), gs, dr, tk, os⟩) :
    codeAny (model P w) A (.call (.ref C) ⟨us, kw⟩) R ⟨hp, gs, dr, tk, os⟩ := by
  have f1 := tc_lookup
  have f2 := tc_bind (.ref C)
  have ht : (⟨hp, gs, dr, tk, os⟩ : Shared).TypeIs (.ref C) "type" := ⟨_, hC, rfl⟩
  refine codeAny_of_tree ?_
  show wpAny _ _ (callAny (.ref C) _) _ _ _
  repeat (any_goals (first
    | assumption
    | with_reducible refine wpAny_loadPart_at hC ?_
    | wp_step))
  refine ⟨rfl, ?_⟩
  refine codeAny_call_builtin_at (Code.quiet_builtin _ (by decide +kernel)) entry_typeCall (wpAny_check_type_call_sub hC (type_callK F hT hC hi hb hl ?_))
  refine codeAny_mono hR fun r z h => ?_
  rcases r with e | (v | _ | _ | _) <;> exact h
end
end Jm

set_option Elab.async false
set_option linter.all false
set_option maxRecDepth 100000
set_option maxHeartbeats 4000000
/-! Jm, part Ex: own errors as values: made, asked for their class, their field read. -/
noncomputable section
namespace Jm
open PySem PySem.Spec PyProof.Rows L2
/-! ### readings -/
/-- C(e) -/
def eXv (i : Nat) (fs : List (E D)) : E D := eBnd (eAll fs) fun ds _ S => if ds.length = 1 then .ok (.exv i ds) S else .bad
/-- C() -/
def eXv0 (i : Nat) : E D := fun _ S => .ok (.exv i []) S
/-- e.f -/
def eXvf (cl : List Nat) (f : Str) (fe : E D) : E D := eBnd fe fun d _ S => match d with
  | .exv c [x] => if c ∈ cl ∧ fldName c = f then .ok x S else .bad
  | _ => .bad
def xOf : Tn → Option Bool
  | .xVal => some true
  | .xKey => some false
  | .xIdx => some false
  | .xTyp => some false
  | _ => none
def xsOf : List D → Option Bool
  | [] => some false
  | .ty t :: r => match xOf t with
    | some true => some true
    | some false => xsOf r
    | none => none
  | _ :: _ => none
/-- the class that an error of any kind is of -/
def xcOf : D → Option Nat
  | .exv c _ => some c
  | .exc c _ => some c
  | _ => none
/-- isinstance -/
def instC (sub : List ((Nat × Nat) × Bool)) (cl : List Nat) : Prim := fun ds S => match ds with
  | [x, y] => (match xcOf x with
    | some c => if c ∈ cl then (match y with
      | .fn j => (sub.lookup (c, j)).map fun b => (.bl b, S)
      | .ty t => (xOf t).map fun b => (.bl b, S)
      | .tup cs => (xsOf cs).map fun b => (.bl b, S)
      | _ => none) else none
    | none => instD ds S)
  | _ => none
/-! ### making -/
section
variable {X : Cx} {CX : CXT} {x : Str} {C fI : Addr} {k : Nat} {fd : FuncData} {ps ks : List Str} {sp : Sp} {e : Expr} {es : List Expr} {kws : List Keyword} {ta tk : TA} {p pos : Pos}
def tXv (C : Addr) (sp : Sp) (ta : TA) : TE := fun σ H Q => ta σ H fun vs H1 => vs.length ≤ 1000 ∧ ∀ a, H1 a = none → sp (.ref a :: vs) (upd H1 a (exo a C none)) (fun v H2 => v = .non ∧ Q (.ref a) H2) (fun _ _ _ => False)
theorem run_xv {pins : List (Addr × Obj)} {σ : L2.St} {H : Hp} {s : Shared} {Q : VK} {us ws : List Value} {vs zs : List V} (T : OexC X.K C) (iC : PySem.W.findIn X.K (.ref C) "__init__" = some (some (.ref fI))) (tI : PySem.W.typeIn X.K (.ref fI) = some (.type "function"))
    (F1 : FnOk X.prog X.w X.K X.mg X.base CX k fI fd ps sp) (hr : Room (k + 1) X.A) (hb : ∀ (s : Shared) (a : Addr), X.K.In s.heap → BindsTo s fd ⟨.ref a :: us, ks.zip ws⟩ (ps.zip (.ref a :: (us ++ ws)))) (hx : Passes CX X (fun _ _ _ => False)) (I : Inv X pins σ H s) (r : Vals vs us) (rz : Vals zs ws) (hl : us.length ≤ 1000)
    (h : ∀ a, H a = none → sp (.ref a :: (vs ++ zs)) (upd H a (exo a C none)) (fun v H2 => v = .non ∧ Q (.ref a) H2) (fun _ _ _ => False)) :
    wpAny (model X.prog X.w) X.A (call (.ref C) us (ks.zip ws)) (EP X pins σ Q) X.xe s := by
  obtain ⟨nm, q, N, bs, bm, sn, sub, ab, col, dd, k0, k1, k2, k3, k5, hC, hbm⟩ := T.cls
  obtain ⟨hp, g, dr, tk, os⟩ := s
  have hsz : hp.objs.size ≤ hp.objs.size + 1 := Nat.le_succ _
  have hn : H (hp.objs.size + 1) = none := I.hok.fresh hsz
  have hq := h (hp.objs.size + 1) hn
  have kk : ∀ b o, hp.get? b = some o → ((hp.push (PySem.W.kdv_tup us)).push (PySem.HandSPX.excO C hp.objs.size)).get? b = some o := fun b o e => Heap.get?_push_of_some _ (Heap.get?_push_of_some _ e)
  have hget : ((hp.push (PySem.W.kdv_tup us)).push (PySem.HandSPX.excO C hp.objs.size)).get? (hp.objs.size + 1) = some (PySem.HandSPX.excO C hp.objs.size) := by heap_get
  have I2 : Inv X pins σ (upd H (hp.objs.size + 1) (exo (hp.objs.size + 1) C none)) ⟨(hp.push (PySem.W.kdv_tup us)).push (PySem.HandSPX.excO C hp.objs.size), g, dr, tk, os⟩ :=
    I.laid (t' := tk) (a := hp.objs.size + 1) (o := exo (hp.objs.size + 1) C none) (h' := (hp.push (PySem.W.kdv_tup us)).push (PySem.HandSPX.excO C hp.objs.size)) kk hsz (exo_ok hget)
  have r2 : Vals (V.ref (hp.objs.size + 1) :: (vs ++ zs)) (Value.ref (hp.objs.size + 1) :: (us ++ ws)) := .cons rfl (r.append rz)
  have hus : us.length ≤ sizeLine := by rw [sizeLine_eq]; omega
  refine wpAny_call (call_ownK PySem.F.excBase_ValueError (fun Y => PySem.HandSPX.refsVE_contains Y bm hbm) (I.kIn _ _ hC) (PySem.W.looks_findIn I.kIn iC) (fun self => PySem.W.bind_fn I.kIn self tI) hus
    (codeAny_mono (F1.run _ X.stack _ _ ⟨Value.ref (hp.objs.size + 1) :: us, ks.zip ws⟩ (Value.ref (hp.objs.size + 1) :: (us ++ ws)) _ _ (fun _ _ _ => False) (hr.make C us (ks.zip ws)) (I2.env0.make C us (ks.zip ws)) (hb _ _ I2.kIn) r2 hq) fun r s' hq' => ?_))
  cases r with
  | error er => exact hx pins σ _ _ er s' I2 hq'
  | ok fl =>
    cases fl with
    | ret u =>
      obtain ⟨v, H', I3, rv, ev, q3⟩ := I2.after hq'
      subst ev
      exact ⟨rv, ⟨V.ref (hp.objs.size + 1), H', I3, rfl, q3⟩⟩
    | next => exact False.elim hq'
    | brk => exact False.elim hq'
    | cont => exact False.elim hq'
theorem pe_xv (T : OexC X.K C) (iC : PySem.W.findIn X.K (.ref C) "__init__" = some (some (.ref fI))) (tI : PySem.W.typeIn X.K (.ref fI) = some (.type "function"))
    (F1 : FnOk X.prog X.w X.K X.mg X.base CX k fI fd ps sp) (hr : Room (k + 1) X.A) (hb : Binds X.K fd ps []) (hx : Passes CX X (fun _ _ _ => False)) (hg : Gl X x) (hm : X.mg x = some (.ref C)) (ha : PA X (e :: es) ta)
    (hdb : (x == ("__debug__" : Str)) = false) (he : starEach (e :: es) X.env = (false, eval e X.env) :: starEach es X.env) (hpl : (backTo pos (starEach es X.env)).any (·.1) = false) :
    PE X (.Call (.Name x p) (e :: es) [] pos) (tXv C sp ta) := by
  refine ⟨fun pins s σ H Q I h => ?_⟩
  refine wpAny_Call_Name_kw (ld_glob I hg hm ?_ hdb)
  refine PySem.W.callWith_K (h₀ := X.base) I.ok.mod.kin T.kC (thn (ha.run pos pins s σ H _ I h) fun us s1 ⟨vs, H1, I1, r1, hz, q1⟩ => ⟨I1.kIn, ?_⟩) he hpl
  show wpAny _ _ (call (.ref C) us) _ _ _
  have hl : ∀ a : Addr, (Value.ref a :: us).length = ps.length := fun a => by
    have hn := I1.hok.fresh (Nat.le_refl s1.heap.objs.size)
    have q2 := F1.len _ _ _ _ (q1 _ hn)
    rw [← q2, List.length_cons, List.length_cons, r1.length]
  refine run_xv (ks := []) (ws := []) (zs := []) T iC tI F1 hr (fun s a hK => ?_) hx I1 r1 .nil (by have := r1.length; omega) fun a hn => ?_
  · have := hb s (Value.ref a :: us) hK (by simpa using hl a)
    simpa using this
  · rw [List.append_nil]; exact q1 a hn
theorem pe_xvK (T : OexC X.K C) (iC : PySem.W.findIn X.K (.ref C) "__init__" = some (some (.ref fI))) (tI : PySem.W.typeIn X.K (.ref fI) = some (.type "function"))
    (F1 : FnOk X.prog X.w X.K X.mg X.base CX k fI fd ps sp) (hr : Room (k + 1) X.A) (hb : KBn X.K fd ps 1 ks (fun us ws => us ++ ws) (fun vs zs => vs ++ zs)) (hx : Passes CX X (fun _ _ _ => False)) (hg : Gl X x) (hm : X.mg x = some (.ref C)) (hkw : PK X kws tk)
    (hall : (backToKw pos (keywordEach kws X.env)).all (·.1.isSome) = true) (hks : (backToKw pos (keywordEach kws X.env)).filterMap (·.1) = ks) (hdb : (x == ("__debug__" : Str)) = false)
    (hpl : ((backTo pos (starEach [] X.env)).any (·.1) || (backToKw pos (keywordEach kws X.env)).any (·.1.isNone)) = false) :
    PE X (.Call (.Name x p) [] kws pos) (tXv C sp fun σ H Q => tk σ H fun zs H1 => zs.length = ks.length ∧ Q zs H1) := by
  refine ⟨fun pins s σ H Q I h => ?_⟩
  refine wpAny_Call_Name_kw (ld_glob I hg hm ?_ hdb)
  refine PySem.W.callWith_KW0 (h₀ := X.base) I.ok.mod.kin T.kC hall ?_ hpl
  refine thn (hkw.run pos pins s σ H _ I h) fun ws s2 ⟨zs, H2, I2, rz, l2, hz, q2⟩ => ⟨I2.kIn, ?_⟩
  rw [hks]
  refine run_xv (us := []) (vs := []) T iC tI F1 hr (fun s a hK => ?_) hx I2 .nil rz (by simp) q2
  exact hb.to s [.ref a] ws hK rfl (rz.length.symm.trans l2)
theorem pe_xv0 (q : PySem.W.excIn X.K C He.veBase "ValueError.__new__" = true) (kC : PySem.W.keepIn X.K (.ref C) = true) (hg : Gl X x) (hm : X.mg x = some (.ref C)) (hdb : (x == ("__debug__" : Str)) = false) :
    PE X (.Call (.Name x p) [] [] pos) (fun _ H Q => ∀ a, H a = none → Q (.ref a) (upd H a (exo a C none))) := by
  refine ⟨fun pins s σ H Q I h => ?_⟩
  refine wpAny_Call_Name_kw (ld_glob I hg hm ?_ hdb)
  refine PySem.W.callWith_K0 I.kIn kC ?_
  show wpAny _ _ (call (.ref C) []) _ _ _
  obtain ⟨bm, N, nm, qn, bs, hdct, sn, sub, ab, col, dd, k0, k1, k2, k3, k5, mN, hC, hN, hni, T⟩ := exc_obj I.kIn q
  refine wpAny_call_exc_subT PySem.F.excBase_ValueError T hC hN hni (fun h' a hm => ?_) (Nat.zero_le _)
  have hn : H a = none := I.hok.gone hm.new
  obtain ⟨t, ht, _, _⟩ := hm.there
  exact ⟨.ref a, upd H a (exo a C none), I.laidN hm.keeps hm.new hn (exo_ok ht), rfl, h a hn⟩
/-- raise C() -/
theorem pmk_xv0 (q : PySem.W.excIn X.K C He.veBase "ValueError.__new__" = true) (kC : PySem.W.keepIn X.K (.ref C) = true) (r : Raises X (.ref C)) (hg : Gl X x) (hm : X.mg x = some (.ref C)) (hdb : (x == ("__debug__" : Str)) = false) :
    PMk X (.Call (.Name x p) [] [] pos) (fun _ H Q => Q (.ref C) none H) := by
  intro pins s σ H Q I h
  refine wpAny_Call_Name_kw (ld_glob I hg hm ?_ hdb)
  refine PySem.W.callWith_K0 I.kIn kC ?_
  show wpAny _ _ (call (.ref C) []) _ _ _
  obtain ⟨bm, N, nm, qn, bs, hdct, sn, sub, ab, col, dd, k0, k1, k2, k3, k5, mN, hC, hN, hni, T⟩ := exc_obj I.kIn q
  refine wpAny_call_exc_subT PySem.F.excBase_ValueError T hC hN hni (fun h' a hm => ?_) (Nat.zero_le _)
  exact mk_of I hm r h (I.hok.gone hm.new)
end
section
variable {X : Cx} {fa : Gl0} {W : WX} {e : Expr} {pos : Pos} {i : Nat} {fs : List (E D)} {p pos2 : Pos} {x f : Str}
theorem exv_made {p1 : List Addr} {S1 : Sto} {H1 : Hp} {W' : Value → Option Addr → Hp → Prop} {Q : VK} {d : D} {v : V} {a : Addr} (rs1 : RS (rc X fa) p1 S1 H1) (r : RV (rc X fa) p1 H1 d v) (hna : H1 a = none)
    (h1 : Aft (rc X fa) p1 H1 (.ok (.exv i [d]) S1) (fun d p' S' H' => ∀ v, RV (rc X fa) p' H' d v → Q v H') W') : spInit (fa.fa i) (fldName i) [.ref a, v] (upd H1 a (exo a (fa.fa i) none)) (fun u H2 => u = .non ∧ Q (.ref a) H2) (fun _ _ _ => False) := by
  refine ⟨a, v, rfl, upd_same, fun dx hd hda => ⟨rfl, ?_⟩⟩
  have hd' := hd
  rw [upd_ne hda] at hd'
  have same : ∀ b u, H1 b = some u → upd (upd (upd H1 a (exo a (fa.fa i) none)) dx (exd dx [(fldName i, v)])) a (exo a (fa.fa i) (some dx)) b = some u := fun b u e => by
    have n1 : b ≠ dx := ne_of_none e hd'
    have n2 : b ≠ a := ne_of_none e hna
    rw [upd_ne n2, upd_ne n1, upd_ne n2]; exact e
  have T : Tm p1 H1 p1 (upd (upd (upd H1 a (exo a (fa.fa i) none)) dx (exd dx [(fldName i, v)])) a (exo a (fa.fa i) (some dx))) := ⟨fun b u nb e => ⟨nb, same b u e⟩, fun b o u e => same b _ e⟩
  have rs2 := rs1.mono T fun b u _ e => same b u e
  have pre := List.prefix_refl p1
  exact h1 p1 _ pre T rs2 (.ref a) (.exv (R := rc X fa) (rs1.nin hna) (rs1.nin hd') upd_same (by rw [upd_ne hda]; exact upd_same) (r.mono pre T))
theorem f_xv (hr : Room 2 X.A) (I : ClsI X.prog X.w X.K X.mg X.base (fa.fa i) (fldName i)) (hg : Gl X x) (hm : X.mg x = some (.ref (fa.fa i))) (ha : PA X [e] (xA (rc X fa) W (eAll fs)))
    (hdb : (x == ("__debug__" : Str)) = false) (he : starEach [e] X.env = (false, eval e X.env) :: starEach [] X.env) : PE X (.Call (.Name x p) [e] [] pos) (xE (rc X fa) W (eXv i fs)) := by
  obtain ⟨fI, fd, ps, h1, h2, F, hb, _⟩ := I.ini
  refine impE (pe_xv I.ox h1 h2 F hr hb passNo hg hm ha hdb he rfl) fun s H Q ⟨p, n, S, rs, re, h⟩ => xA_of rs re h fun ds p1 S1 H1 vs rs1 re1 hp1 t1 rv h1 => ?_
  by_cases hl : ds.length = 1
  · have h1 : Aft (rc X fa) p1 H1 (if ds.length = 1 then (.ok (.exv i ds) S1 : Res D) else .bad) _ _ := h1
    rw [if_pos hl] at h1
    match ds, vs, rv, hl with
    | [d], [v], .cons r .nil, _ => exact ⟨by simp, fun a hna => exv_made rs1 r hna h1⟩
  · have h1 : Aft (rc X fa) p1 H1 (if ds.length = 1 then (.ok (.exv i ds) S1 : Res D) else .bad) _ _ := h1
    rw [if_neg hl] at h1; exact h1.elim
theorem f_xvK {kws : List Keyword} {gs : List (E D)} (hr : Room 2 X.A) (I : ClsI X.prog X.w X.K X.mg X.base (fa.fa i) (fldName i)) (hg : Gl X x) (hm : X.mg x = some (.ref (fa.fa i))) (hkw : PK X kws (xA (rc X fa) W (eAll fs)))
    (hall : (backToKw pos (keywordEach kws X.env)).all (·.1.isSome) = true) (hks : (backToKw pos (keywordEach kws X.env)).filterMap (·.1) = [fldName i]) (hdb : (x == ("__debug__" : Str)) = false)
    (hpl : ((backTo pos (starEach [] X.env)).any (·.1) || (backToKw pos (keywordEach kws X.env)).any (·.1.isNone)) = false) : PE X (.Call (.Name x p) [] kws pos) (xE (rc X fa) W (eXv i fs)) := by
  obtain ⟨fI, fd, ps, h1, h2, F, _, hb⟩ := I.ini
  refine impE (pe_xvK I.ox h1 h2 F hr hb passNo hg hm hkw hall hks hdb hpl) fun s H Q ⟨p, n, S, rs, re, h⟩ => xA_of rs re h fun ds p1 S1 H1 vs rs1 re1 hp1 t1 rv h1 => ?_
  by_cases hl : ds.length = 1
  · have h1 : Aft (rc X fa) p1 H1 (if ds.length = 1 then (.ok (.exv i ds) S1 : Res D) else .bad) _ _ := h1
    rw [if_pos hl] at h1
    match ds, vs, rv, hl with
    | [d], [v], .cons r .nil, _ => exact ⟨rfl, by simp, fun a hna => exv_made rs1 r hna h1⟩
  · have h1 : Aft (rc X fa) p1 H1 (if ds.length = 1 then (.ok (.exv i ds) S1 : Res D) else .bad) _ _ := h1
    rw [if_neg hl] at h1; exact h1.elim
theorem f_xv0 (q : PySem.W.excIn X.K (fa.fa i) He.veBase "ValueError.__new__" = true) (kC : PySem.W.keepIn X.K (.ref (fa.fa i)) = true) (hg : Gl X x) (hm : X.mg x = some (.ref (fa.fa i))) (hdb : (x == ("__debug__" : Str)) = false) :
    PE X (.Call (.Name x p) [] [] pos) (xE (rc X fa) W (eXv0 i)) :=
  impE (pe_xv0 q kC hg hm hdb) fun s H Q ⟨p, n, S, rs, re, h⟩ => fun a hn => by
    have T : Tm p H p (upd H a (exo a (fa.fa i) none)) := Tm.new hn
    exact h p _ (List.prefix_refl p) T (rs.newT hn) (.ref a) (.exv0 (R := rc X fa) (rs.nin hn) upd_same)
theorem f_raise0 (hc : X.calm = true) (tk : Takes X W) (q : PySem.W.excIn X.K (fa.fa i) He.veBase "ValueError.__new__" = true) (ox : OexC X.K (fa.fa i)) (hg : Gl X x) (hm : X.mg x = some (.ref (fa.fa i))) (hdb : (x == ("__debug__" : Str)) = false) :
    PS X (.Raise (some (.Call (.Name x p) [] [] pos)) none pos2) (xS (rc X fa) W (fun n S => .ok (.er i [] n) S)) :=
  impS (ps_raise hc tk (pmk_xv0 q ox.kC (raises_own ox.exC ox.tyC) hg hm hdb)) fun D0 s H ⟨p, n, S, rs, re, h⟩ => by
    exact h p H (List.prefix_refl p) Tm.refl rs s (.ref (fa.fa i)) none re ⟨rfl, .inl ⟨rfl, rfl⟩⟩
end
theorem sub_memX {x : Nat × Nat} {v : Bool} : ∀ {l : List ((Nat × Nat) × Bool)}, l.lookup x = some v → (x, v) ∈ l
  | (k, u) :: l, h => by
    rw [List.lookup_cons] at h
    cases e : x == k with
    | true =>
      rw [e] at h; cases h
      rw [eq_of_beq e]; exact List.mem_cons_self
    | false => rw [e] at h; exact List.mem_cons_of_mem _ (sub_memX h)
/-! ### asked for their class -/
/-- what isinstance asks of an own error's class -/
structure XcC (K : PySem.W.Frag) (C : Addr) : Prop where
  ha : PySem.W.findIn K (.ref C) "__class__" = some (some (.builtin "object.__class__"))
  hn : PySem.W.specialIn K (.builtin "object.__class__") "__get__" = some (some (.builtin "getset_descriptor.__get__"))
  ht : PySem.W.takesIn K (.builtin "object.__class__") = some true
  hm : PySem.W.mroIn K C (.type "object") = some true
def xcB (K : PySem.W.Frag) (C : Addr) : Bool := decide (PySem.W.findIn K (.ref C) "__class__" = some (some (.builtin "object.__class__"))) && (decide (PySem.W.specialIn K (.builtin "object.__class__") "__get__" = some (some (.builtin "getset_descriptor.__get__"))) && (decide (PySem.W.takesIn K (.builtin "object.__class__") = some true) && decide (PySem.W.mroIn K C (.type "object") = some true)))
theorem xcB_ok {K : PySem.W.Frag} {C : Addr} (h : xcB K C = true) : XcC K C := by
  obtain ⟨h1, h⟩ := Bool.and_eq_true_iff.mp h
  obtain ⟨h2, h⟩ := Bool.and_eq_true_iff.mp h
  obtain ⟨h3, h4⟩ := Bool.and_eq_true_iff.mp h
  exact ⟨of_decide_eq_true h1, of_decide_eq_true h2, of_decide_eq_true h3, of_decide_eq_true h4⟩
/-- an object of the class C -/
def AtX (x C : Addr) (h : Heap) : Prop := ∃ ox od, PySem.W.InstAt h x ox C od
theorem kitx_exv {K : PySem.W.Frag} {x C : Addr} (T : XfC K C) (Z : XcC K C) : PySem.W.KitX K (.ref x) (.ref C) (AtX x C) where
  ty := fun _ _ _ ⟨_, _, I⟩ => I.type
  it := fun _ _ X _ => by
    obtain ⟨cdD, hcD, _⟩ := PySem.W.any_some T.hdC
    unfold PySem.W.clsIn at hcD
    split at hcD
    · rename_i c' d' cd' sl' ho
      intro A' Q' E' s' k q
      unfold isType loadHead
      exact wpAny_bind (wpAny_loadPart (k _ _ (X _ _ ho)) (wpAny_pure q))
    · cases hcD
  ne := fun h tp dd its n sl X htp => by
    obtain ⟨cdD, hcD, _⟩ := PySem.W.any_some T.hdC
    refine Bool.eq_false_iff.mpr fun q => ?_
    have e : C = tp := Value.ref.inj (beq_iff_eq.mp q)
    subst e
    unfold PySem.W.clsIn at hcD
    split at hcD
    · rename_i c' d' cd' sl' ho
      have z := (X _ _ ho).symm.trans htp
      cases z
    · cases hcD
  ca := fun X ⟨ox, od, I⟩ k => by
    obtain ⟨cdD, hcD, _⟩ := PySem.W.any_some T.hdC
    exact PySem.W.kx_classE X I T.ga T.gg T.exC (PySem.W.findObj_dataE (by rw [hcD]; rfl) Z.ha Z.hn Z.ht) Z.hm k
theorem oex_sub {K : PySem.W.Frag} {C : Addr} (T : OexC K C) : PySem.W.subIn K (.ref C) (.ref C) = some true ∧ ∀ Y : String, PySem.W.subIn K (.ref C) (.type Y) = some (PySem.HandSPX.veTail.contains (.type Y)) := by
  obtain ⟨nm, q, N, bs, bm, sn, sub, ab, col, dd, k0, k1, k2, k3, k5, hC, hbm⟩ := T.cls
  have e : ∀ b, PySem.W.subIn K (.ref C) b = some ((Value.ref C :: bm).contains b) := fun b => by
    show PySem.W.mroIn K C b = _
    unfold PySem.W.mroIn PySem.W.clsIn
    rw [hC]; rfl
  refine ⟨by rw [e]; simp, fun Y => ?_⟩
  rw [e, List.contains_cons, PySem.HandSPX.refsVE_contains Y bm hbm]
  show some ((Value.type Y == Value.ref C) || _) = _
  rw [show (Value.type Y == Value.ref C) = false from rfl, Bool.false_or]
theorem kit_own {K : PySem.W.Frag} {C D : Addr} {b : Bool} (T : OexC K C) (h : PySem.W.exmOne K (.ref C) (.ref D) = some b) : PySem.W.kitOne K (.ref C) (.ref D) = some b := by
  unfold PySem.W.exmOne at h
  split at h
  · unfold PySem.W.kitOne
    split
    · rename_i e
      have e : Value.ref C = Value.ref D := eq_of_beq e
      rw [← e] at h
      unfold PySem.W.kitCls at h
      dsimp only at h
      split at h
      · exact (oex_sub T).1.symm.trans h
      · cases h
    · exact h
  · cases h
theorem kit_xty {K : PySem.W.Frag} {C : Addr} {t : Tn} {b : Bool} (T : OexC K C) (h : xOf t = some b) : PySem.W.kitOne K (.ref C) (.type t.name) = some b := by
  have q : PySem.W.kitOne K (.ref C) (.type t.name) = PySem.W.kitCls K (.ref C) (.type t.name) := by
    unfold PySem.W.kitOne
    rw [if_neg (by simp)]
  rw [q]
  unfold PySem.W.kitCls
  cases t <;> first | cases h | skip
  all_goals
    dsimp only
    rw [if_pos (by decide +kernel), (oex_sub T).2]
    decide +kernel
theorem kit_xtys {K : PySem.W.Frag} {R : RC} {p : List Addr} {H : Hp} {C : Addr} (T : OexC K C) : ∀ {cs : List D} {vs : List V} {us : List Value} {b : Bool}, RVs R p H cs vs → Vals vs us → xsOf cs = some b → PySem.W.kitAny K (.ref C) us = some b
  | _, _, _, _, .nil, .nil, h => by cases h; rfl
  | _, _, _, b, .cons (d := d) r rs, .cons r2 rs2, h => by
    cases r with
    | ty t =>
      have e : _ = Value.type t.name := r2
      rw [e]
      have h' : (match xOf t with | some true => some true | some false => xsOf _ | none => none) = some b := h
      cases hx : xOf t with
      | none => rw [hx] at h'; cases h'
      | some k =>
        rw [hx] at h'
        refine kitAny_cons (kit_xty T hx) (fun e => ?_) (fun e => ?_)
        · subst e; exact kit_xtys T rs rs2 h'
        · subst e; cases h'; rfl
    | _ => exact nomatch h
/-- what is known of the classes -/
structure ErX (K : PySem.W.Frag) (C : Addr) : Prop where
  ox : OexC K C
  xf : XfC K C
  xc : XcC K C
theorem call_instC {X : Cx} {fa : Gl0} {sub : List ((Nat × Nat) × Bool)} {cl : List Nat} (hcl : ∀ i ∈ cl, ErX X.K (fa.fa i)) (hsub : ∀ q ∈ sub, PySem.W.exmOne X.K (.ref (fa.fa q.1.1)) (.ref (fa.fa q.1.2)) = some q.2)
    (hex : ∀ a c dd, fa.ex = some (a, c, dd) → ∃ oe : Obj, Zc (.ref (fa.fa c)) dd oe ∧ (∃ vs, oe.data = .fields vs) ∧ ∀ (pins : List (Addr × Obj)) (σ : L2.St) (H : Hp) (s : Shared), Inv X pins σ H s → s.heap.get? a = some oe) : CallR X (.builtin "isinstance") (xN (rc X fa) (instC sub cl)) := by
  intro pins s σ H xs us Q I rr ⟨p, S, ds, d, S', rs, rv, e, q⟩
  unfold instC at e
  split at e
  · rename_i x y
    cases hx : xcOf x with
    | none =>
      rw [hx] at e
      exact call_isJ (fa := fa) pins s σ H xs us Q I rr ⟨p, S, [x, y], d, S', rs, rv, e, q⟩
    | some c =>
      rw [hx] at e
      dsimp only at e
      split at e
      · rename_i hc
        have T := hcl c hc
        cases rv with
        | cons r1 r2 => cases r2 with
          | cons r2 r3 =>
            cases r3
            obtain ⟨u1, u2, rfl, w1, w2⟩ := vals2 rr
            have at_ : ∃ a, u1 = Value.ref a ∧ AtX a (fa.fa c) s.heap := by
              cases r1 with
              | @exv a dx c' x v n1 n2 h1 h2 h3 =>
                cases hx
                cases (show u1 = Value.ref a from w1)
                refine ⟨a, rfl, ?_⟩
                obtain ⟨⟨t1, e1⟩, _⟩ := I.hok a _ h1
                obtain ⟨⟨mA, hns, _⟩, _⟩ := I.hok dx _ h2
                obtain ⟨od, ho, _⟩ := lookIn_ns hns
                exact ⟨_, some od, e1, rfl, rfl, ho⟩
              | @exv0 a c' n1 h1 =>
                cases hx
                cases (show u1 = Value.ref a from w1)
                refine ⟨a, rfl, ?_⟩
                obtain ⟨⟨t1, e1⟩, _⟩ := I.hok a _ h1
                exact ⟨_, none, e1, rfl, rfl, trivial⟩
              | @exc c' a dx x v he n2 h2 h3 =>
                cases hx
                cases (show u1 = Value.ref a from w1)
                refine ⟨a, rfl, ?_⟩
                obtain ⟨oe, hz, ⟨vs, hf⟩, g⟩ := hex a c (some dx) he
                have hy : ObjOk X.prog X.w H s.heap dx (.xd [(fldName c, v)]) := I.hok dx _ h2
                obtain ⟨mA, hns, _⟩ := hy
                obtain ⟨od, ho, _⟩ := lookIn_ns hns
                exact ⟨oe, some od, g _ _ _ _ I, hz.1, by unfold PySem.W.notCls; rw [hf] <;> rfl, by rw [hz.2]; exact ho⟩
              | @exc0 c' a he =>
                cases hx
                cases (show u1 = Value.ref a from w1)
                refine ⟨a, rfl, ?_⟩
                obtain ⟨oe, hz, ⟨vs, hf⟩, g⟩ := hex a c none he
                exact ⟨oe, none, g _ _ _ _ I, hz.1, by unfold PySem.W.notCls; rw [hf] <;> rfl, by rw [hz.2]; trivial⟩
              | _ => exact nomatch hx
            obtain ⟨a, rfl, hat⟩ := at_
            have Z := kitx_exv (x := a) T.xf T.xc
            cases r2 with
            | fn j =>
              dsimp only at e
              obtain ⟨b, e1, e2⟩ := map_some e
              cases e2
              cases (show u2 = Value.ref (fa.fa j) from w2)
              exact PySem.W.kia_one Z I.kIn hat (kit_own T.ox (hsub ((c, j), b) (sub_memX e1))) (fun z => nomatch z) fun tk => ⟨.bl b, H, I.tok tk, rfl, at_once rs q (.bl b)⟩
            | ty t =>
              dsimp only at e
              obtain ⟨b, e1, e2⟩ := map_some e
              cases e2
              cases (show u2 = Value.type t.name from w2)
              exact PySem.W.kia_one Z I.kIn hat (kit_xty T.ox e1) (fun z => nomatch z) fun tk => ⟨.bl b, H, I.tok tk, rfl, at_once rs q (.bl b)⟩
            | @tup tp vs _ s1 v1 =>
              dsimp only at e
              obtain ⟨b, e1, e2⟩ := map_some e
              cases e2
              cases (show u2 = Value.ref tp from w2)
              obtain ⟨its, rv, ⟨o, ho, hc, n, hd⟩, _⟩ := I.tuple s1.sq
              have ka := kit_xtys T.ox v1 rv e1
              obtain ⟨oc, od, dt, sl⟩ := o
              simp only at hc hd
              subst hc hd
              exact PySem.W.kia_tup Z I.kIn hat ho ka (fun z => nomatch z) fun tk => ⟨.bl _, H, I.tok tk, rfl, at_once rs q (.bl _)⟩
            | _ => exact nomatch e
      · cases e
  · cases e
/-! ### the field -/
section
variable {X : Cx} {fa : Gl0} {W : WX} {e : Expr} {pos : Pos} {f : Str} {fe : E D} {cl : List Nat}
theorem pe_xvf {te : TE} {n : Str} (he : PE X e te) (hb : attributeBase e n X.env (eval e X.env) = eval e X.env) :
    PE X (.Attribute e n pos) (fun σ H Q => te σ H fun x H1 => ∃ (a dx C : Addr) (fs : List (Str × V)) (v : V), x = .ref a ∧ H1 a = some (exo a C (some dx)) ∧ H1 dx = some (exd dx fs) ∧ XfC X.K C ∧ PySem.W.findIn X.K (.ref C) n = some none ∧ fs.lookup n = some v ∧ Q v H1) := by
  refine ⟨fun pins s σ H Q I h => ?_⟩
  refine attr_of hb (thn (he.run pins s σ H _ I h) fun u s1 hh => ?_)
  obtain ⟨x, H1, I1, rx, a, dx, C, fs, v, ex, ea, ed, T, hno, l, q⟩ := hh
  subst ex
  obtain rfl : u = Value.ref a := rx
  obtain ⟨⟨t1, e1⟩, _⟩ := I1.hok a _ ea
  obtain ⟨⟨mA, hns, hr⟩, _⟩ := I1.hok dx _ ed
  obtain ⟨od, ho, hl⟩ := lookIn_ns hns
  obtain ⟨u, hu, ru⟩ := RelO.some_of (v := v) (o := mA n) (by rw [← l]; exact hr n)
  have J : PySem.W.InstAt s1.heap a _ C (some od) := ⟨e1, rfl, rfl, ho⟩
  exact HandSPX.exc_get I1.kIn J T.ga T.gg T.exC (PySem.W.findObj_own T.hdC hno rfl (by rw [hl, hu])) (handed_of ru) ⟨v, H1, I1.tok _, ru, q⟩
theorem f_xvf (hcl : ∀ i ∈ cl, XfC X.K (fa.fa i) ∧ PySem.W.findIn X.K (.ref (fa.fa i)) f = some none) (he : PE X e (xE (rc X fa) W fe)) (hb : attributeBase e f X.env (eval e X.env) = eval e X.env) : PE X (.Attribute e f pos) (xE (rc X fa) W (eXvf cl f fe)) :=
  impE (pe_xvf he hb) fun s H Q ⟨p, n, S, rs, re, h⟩ => xE_of rs re h fun d p1 S1 H1 v rs1 re1 hp t rv h1 => by
    cases rv with
    | @exv a dx c x v n1 n2 g1 g2 hr =>
      have h9 : Aft (rc X fa) p1 H1 (if c ∈ cl ∧ fldName c = f then .ok x S1 else .bad) _ _ := h1
      by_cases hc : c ∈ cl ∧ fldName c = f
      · rw [if_pos hc] at h9
        obtain ⟨T, no⟩ := hcl c hc.1
        exact ⟨a, dx, _, _, v, rfl, g1, g2, T, no, by rw [hc.2]; simp [List.lookup], aft_ok rs1 h9 v hr⟩
      · rw [if_neg hc] at h9; exact h9.elim
    | _ => exact h1.elim
end
end Jm

set_option Elab.async false
set_option linter.all false
set_option maxRecDepth 100000
set_option maxHeartbeats 4000000
/-! Jm, part O: what a text does, by its tree (the walk of all of it, once). -/
noncomputable section
namespace Jm
open PySem PySem.Spec PyProof.Rows L2
/-! ### forms -/
def noStar : Expr → Bool
  | .Starred _ _ => false
  | _ => true
def noStars (es : List Expr) : Bool := es.all noStar
def noSet : Expr → Bool
  | .Set _ _ _ => false
  | _ => true
def noComp : Expr → Bool
  | .ListComp _ _ _ _ => false
  | .SetComp _ _ _ _ => false
  | .DictComp _ _ _ _ _ => false
  | _ => true
section
variable {e tg : Expr} {es : List Expr} {env : Env} {pos : Pos}
theorem star_cons (h : noStar e = true) : starEach (e :: es) env = (false, eval e env) :: starEach es env := by cases e <;> first | rfl | cases h
theorem asg_cons (h : noStar e = true) : assignEach (e :: es) env = (false, assign e env) :: assignEach es env := by cases e <;> first | rfl | cases h
theorem stars_any : ∀ {es : List Expr}, noStars es = true → (backTo pos (starEach es env)).any (·.1) = false
  | [], _ => rfl
  | e :: es, h => by
    have h2 : (noStar e && noStars es) = true := h
    rw [Bool.and_eq_true] at h2
    rw [star_cons h2.1]
    show (false || (backTo pos (starEach es env)).any (·.1)) = false
    rw [stars_any h2.2]; rfl
theorem stars_all : ∀ {es : List Expr}, noStars es = true → (backTo pos (starEach es env)).all (fun x => !x.1) = true
  | [], _ => rfl
  | e :: es, h => by
    have h2 : (noStar e && noStars es) = true := h
    rw [Bool.and_eq_true] at h2
    rw [star_cons h2.1]
    show (!false && (backTo pos (starEach es env)).all (fun x => !x.1)) = true
    rw [stars_all h2.2]; rfl
theorem asg_len : ∀ {es : List Expr}, noStars es = true → (assignEach es env).length = es.length ∧ (assignEach es env).findIdx? (·.1) = none
  | [], _ => ⟨rfl, rfl⟩
  | e :: es, h => by
    have h2 : (noStar e && noStars es) = true := h
    rw [Bool.and_eq_true] at h2
    obtain ⟨i1, i2⟩ := asg_len (es := es) h2.2
    rw [asg_cons h2.1]
    refine ⟨congrArg (· + 1) i1, ?_⟩
    rw [List.findIdx?_cons, i2]; rfl
theorem set_no (h : noSet e = true) (x : Value) : foldedSetIterable e env x = pure x := by cases e <;> first | rfl | cases h
theorem sw_no {t : Option Expr} {l : Nat} (h : noComp e = true) : swapsWith e t l env = pure false := by cases e <;> first | rfl | cases h
def kwOk (kws : List Keyword) : Bool := kws.all fun k => k.arg.isSome
def kwNames (kws : List Keyword) : List Str := kws.filterMap fun k => k.arg
theorem kw_all : ∀ {kws : List Keyword}, kwOk kws = true → (backToKw pos (keywordEach kws env)).all (·.1.isSome) = true ∧ (backToKw pos (keywordEach kws env)).any (·.1.isNone) = false
  | [], _ => ⟨rfl, rfl⟩
  | ⟨a, v, q⟩ :: kws, h => by
    have h2 : (a.isSome && kwOk kws) = true := h
    rw [Bool.and_eq_true] at h2
    obtain ⟨i1, i2⟩ := kw_all (kws := kws) h2.2
    refine ⟨?_, ?_⟩
    · show (a.isSome && (backToKw pos (keywordEach kws env)).all (·.1.isSome)) = true
      rw [i1, h2.1]; rfl
    · show (a.isNone || (backToKw pos (keywordEach kws env)).any (·.1.isNone)) = false
      rw [i2]
      cases a with
      | none => exact absurd h2.1 (by simp)
      | some _ => rfl
theorem kw_names : ∀ {kws : List Keyword}, (backToKw pos (keywordEach kws env)).filterMap (·.1) = kwNames kws
  | [] => rfl
  | ⟨a, v, q⟩ :: kws => by
    have ih := kw_names (kws := kws)
    unfold kwNames at ih ⊢
    show List.filterMap (·.1) ((a, _) :: backToKw pos (keywordEach kws env)) = List.filterMap (fun k => k.arg) (⟨a, v, q⟩ :: kws)
    cases a with
    | none => simpa using ih
    | some s => simpa using ih
end
def isTruthForm : Expr → Bool
  | .UnaryOp .Not _ _ => false
  | .BoolOp _ _ _ => false
  | .IfExp _ _ _ _ => false
  | .Compare _ _ _ _ => false
  | _ => true
theorem truth_form {a : Expr} {env : Env} (h : isTruthForm a = true) (whole : Sem Value) : isTrue a env whole = (do let v ← whole; standAt a.pos; holding [v] (truthy v)) := by
  cases a with
  | UnaryOp op e pos => cases op <;> first | rfl | cases h
  | BoolOp => cases h
  | IfExp => cases h
  | Compare => cases h
  | _ => rfl
def slot (N : List Str) (x : Str) : Option Nat := match N with
  | [] => none
  | y :: N => if x = y then some 0 else (slot N x).map (· + 1)
theorem slot_ok : ∀ {N : List Str} {x : Str} {i : Nat}, slot N x = some i → N[i]? = some x
  | [], _, _, h => by cases h
  | y :: N, x, i, h => by
    unfold slot at h
    split at h
    · rename_i e; cases h; subst e; rfl
    · cases e : slot N x with
      | none => rw [e] at h; cases h
      | some j => rw [e] at h; cases h; simpa using slot_ok e
theorem slot_lt {N : List Str} {x : Str} {i : Nat} (h : slot N x = some i) : i < N.length := (List.getElem?_eq_some_iff.mp (slot_ok h)).1

/-! ### the module's names -/
/-- how a def is called by keywords: the positional ones, the names, the order -/
abbrev KwF := Nat × List Str × List Nat
inductive Gv where
  | fn (i : Nat) (ps : List Str) (kf : List KwF)
  | cst (d : D)
  | cls (i : Nat)
  | free
  /-- an own class with one field: its __init__, its number, the field -/
  | mk (i c : Nat) (f : Str)
  /-- a method of such a class -/
  | mth (i c : Nat) (m : Str)
  /-- the field of such a class -/
  | atr (c : Nat) (f : Str)
structure Ct where
  N : List Str
  sc : Scope
  fn : Str → Bool
  gl : List (Str × Gv)
  cl : List Nat
  sub : List ((Nat × Nat) × Bool)
  calm : Bool
  cf : CF
section
variable (P : Program) (w : World) (K : PySem.W.Frag) (mg : Str → Option Value) (base : Heap) (fa : Gl0) (cf : CF) (calm : Bool) (d : Nat)
def FnI (i : Nat) (ps : List Str) (kf : List KwF) : Prop := ∃ fd, FnOk P w K mg base (L2.CX P w) d (fa.fa i) fd ps (spF ⟨K, P, w, fa.fa, fa.g, fa.ex⟩ (cf i)) ∧ Binds K fd ps [] ∧ PySem.W.keepIn K (.ref (fa.fa i)) = true ∧
  ∀ q ∈ kf, KBn K fd ps q.1 q.2.1 (fun us ws => arr q.2.2 (us ++ ws)) (fun vs zs => arr q.2.2 (vs ++ zs))
def GvOk (x : Str) : Gv → Prop
  | .fn i ps kf => mg x = some (.ref (fa.fa i)) ∧ (calm = true → FnI P w K mg base fa cf d i ps kf)
  | .cls i => mg x = some (.ref (fa.fa i))
  | .cst e => ∃ u v, mg x = some u ∧ RelV v u ∧ ∀ p H, RV ⟨K, P, w, fa.fa, fa.g, fa.ex⟩ p H e v
  | .free => mg x = none
  | .mk i c f => mg x = some (.ref (fa.fa c)) ∧ (calm = true → ∃ (k : Nat) (fI : Addr) (fd : FuncData) (ps : List Str), k + 1 ≤ d ∧ Mk K (fa.fa c) fI ∧ FnOk P w K mg base (L2.CX P w) k fI fd ps (spI ⟨K, P, w, fa.fa, fa.g, fa.ex⟩ c f (cf i)) ∧ Binds K fd ps [])
  | .mth i c m => calm = true → Cls K (fa.fa c) ∧ Meth K (fa.fa c) m (fa.fa i) ∧ ∃ (fd : FuncData) (ps : List Str), FnOk P w K mg base (L2.CX P w) d (fa.fa i) fd ps (spF ⟨K, P, w, fa.fa, fa.g, fa.ex⟩ (cf i)) ∧ Binds K fd ps []
  | .atr c f => calm = true → Cls K (fa.fa c) ∧ NoAttr K (fa.fa c) f
end
def flds : List Str := ["given", "index", "reason"]
structure CxOk (c : Ct) (fa : Gl0) (X : Cx) (W : WX) : Prop where
  hN : X.N = c.N
  sc : X.env.scope = c.sc
  fn : X.fn = c.fn
  nd : c.N.Nodup
  calm : c.calm = true → X.calm = true
  tk : Takes X W
  hu : X.A.units + 65 < cLine
  rm : ∃ d, (c.calm = true → Room (d + 2) X.A) ∧ ∀ x g, c.gl.lookup x = some g → GvOk X.prog X.w X.K X.mg X.base fa c.cf c.calm (d + 2) x g
  cls : ∀ i ∈ c.cl, i % 4 ≠ 0 → ClsI X.prog X.w X.K X.mg X.base (fa.fa i) (fldName i)
  fld : ∀ i ∈ c.cl, XfC X.K (fa.fa i) ∧ ∀ f ∈ flds, PySem.W.findIn X.K (.ref (fa.fa i)) f = some none
  sub : ∀ q ∈ c.sub, PySem.W.exmOne X.K (.ref (fa.fa q.1.1)) (.ref (fa.fa q.1.2)) = some q.2
  clx : ∀ i ∈ c.cl, ErX X.K (fa.fa i)
  x0 : ∀ i ∈ c.cl, i % 4 = 0 → PySem.W.excIn X.K (fa.fa i) He.veBase "ValueError.__new__" = true
  exn : c.calm = true → fa.ex = none
  sui : c.calm = false → ∃ (X0 : Cx) (a : Addr) (oe : Obj) (i : Nat) (dd : Option Addr) (pn : List (Addr × Obj)), X = X0.suite a ((a, oe) :: pn) ∧ fa.ex = some (a, i, dd) ∧ i ∈ c.cl ∧ Zc (.ref (fa.fa i)) dd oe ∧ ∃ vs, oe.data = .fields vs
theorem CxOk.w0 {c : Ct} {fa : Gl0} {X : Cx} {W : WX} (o : CxOk c fa X W) : CxOk c fa X W0 := { o with tk := takes0 }
def glob (c : Ct) (x : Str) : Option Gv := match c.sc.names.lookup x with
  | some .globalImplicit => if x = "__debug__" ∨ x = "__name__" then none else c.gl.lookup x
  | _ => none
theorem glob_ok {c : Ct} {fa : Gl0} {X : Cx} {W : WX} (o : CxOk c fa X W) {x : Str} {g : Gv} (h : glob c x = some g) : Gl X x ∧ (x == ("__debug__" : Str)) = false ∧ x ≠ "__name__" ∧ c.gl.lookup x = some g := by
  unfold glob at h
  split at h
  · rename_i e
    split at h
    · cases h
    · rename_i n
      refine ⟨?_, by simpa using fun z => n (.inl z), fun z => n (.inr z), h⟩
      show X.env.scope.names.lookup x = _
      rw [o.sc]; exact e
  · cases h
/-- the key under which a method, a field stands -/
def dotN (x : Str) : Str := "." ++ x
def isFree (c : Ct) (x : Str) : Bool := match glob c x with
  | some .free => true
  | _ => false
theorem free_ok {c : Ct} {fa : Gl0} {X : Cx} {W : WX} (o : CxOk c fa X W) {x : Str} (h : isFree c x = true) : Gl X x ∧ (x == ("__debug__" : Str)) = false ∧ x ≠ "__name__" ∧ X.mg x = none := by
  unfold isFree at h
  split at h
  · rename_i e
    obtain ⟨a, b, c', d⟩ := glob_ok o e
    obtain ⟨_, _, q⟩ := o.rm
    exact ⟨a, b, c', q _ _ d⟩
  · cases h

/-! ### built-in functions and types -/
def bifs2 (x : Str) : Option Prim :=
  if x = "sorted" then some sortedX else if x = "str" then some strD else if x = "dict" then some dictPP else none
def bifs (x : Str) : Option Prim :=
  if x = "len" then some lenD else if x = "abs" then some absD else if x = "divmod" then some divmodD else if x = "max" then some maxX else if x = "min" then some minX
  else if x = "sum" then some sumD else if x = "all" then some (quanD fun bs => bs.all id) else if x = "any" then some (quanD fun bs => bs.any id) else if x = "isinstance" then some instD
  else if x = "int" then some intD else if x = "tuple" then some tupleD else if x = "list" then some listD else bifs2 x
def xtyns (x : Str) : Option Tn :=
  if x = "ValueError" then some .xVal else if x = "KeyError" then some .xKey else if x = "IndexError" then some .xIdx else if x = "TypeError" then some .xTyp else none
theorem xtyn_ok {x : Str} {t : Tn} (h : xtyns x = some t) : bootBuiltins x = some (.type t.name) := by
  unfold xtyns at h
  split at h
  · rename_i e; subst e; cases h; decide +kernel
  split at h
  · rename_i e; subst e; cases h; decide +kernel
  split at h
  · rename_i e; subst e; cases h; decide +kernel
  split at h
  · rename_i e; subst e; cases h; decide +kernel
  · cases h
def tyns (x : Str) : Option Tn :=
  if x = "int" then some .int else if x = "bool" then some .bool else if x = "str" then some .str else if x = "tuple" then some .tuple else if x = "list" then some .list else if x = "dict" then some .dict else xtyns x
theorem bif2_ok {X : Cx} {fa : Gl0} {x : Str} {g : Prim} (hc : X.calm = true) (hu : X.A.units + 65 < cLine) (h : bifs2 x = some g) :
    (∃ id, bootBuiltins x = some (.builtin id) ∧ CallR X (.builtin id) (xN (rc X fa) g)) ∨ ∃ T, bootBuiltins x = some (.type T) ∧ CallR X (.type T) (xN (rc X fa) g) := by
  unfold bifs2 at h
  split at h
  · rename_i e; subst e; cases h; exact .inl ⟨_, by decide +kernel, call_sortedX hc hu⟩
  split at h
  · rename_i e; subst e; cases h; exact .inr ⟨_, by decide +kernel, call_strJ⟩
  split at h
  · rename_i e; subst e; cases h; exact .inr ⟨_, by decide +kernel, call_dictPP hc hu⟩
  · cases h
theorem bif_ok {X : Cx} {fa : Gl0} {x : Str} {g : Prim} (hc : X.calm = true) (hu : X.A.units + 65 < cLine) (h : bifs x = some g) :
    (∃ id, bootBuiltins x = some (.builtin id) ∧ CallR X (.builtin id) (xN (rc X fa) g)) ∨ ∃ T, bootBuiltins x = some (.type T) ∧ CallR X (.type T) (xN (rc X fa) g) := by
  unfold bifs at h
  split at h
  · rename_i e; subst e; cases h; exact .inl ⟨_, by decide +kernel, call_lenJ⟩
  split at h
  · rename_i e; subst e; cases h; exact .inl ⟨_, by decide +kernel, call_absJ⟩
  split at h
  · rename_i e; subst e; cases h; exact .inl ⟨_, by decide +kernel, call_divmodJ⟩
  split at h
  · rename_i e; subst e; cases h; exact .inl ⟨_, by decide +kernel, call_maxX hc hu⟩
  split at h
  · rename_i e; subst e; cases h; exact .inl ⟨_, by decide +kernel, call_minX hc hu⟩
  split at h
  · rename_i e; subst e; cases h; exact .inl ⟨_, by decide +kernel, call_sumJ hc⟩
  split at h
  · rename_i e; subst e; cases h; exact .inl ⟨_, by decide +kernel, call_allJ hc⟩
  split at h
  · rename_i e; subst e; cases h; exact .inl ⟨_, by decide +kernel, call_anyJ hc⟩
  split at h
  · rename_i e; subst e; cases h; exact .inl ⟨_, by decide +kernel, call_isJ⟩
  split at h
  · rename_i e; subst e; cases h; exact .inr ⟨_, by decide +kernel, call_intJ⟩
  split at h
  · rename_i e; subst e; cases h; exact .inr ⟨_, by decide +kernel, call_tupleJ⟩
  split at h
  · rename_i e; subst e; cases h; exact .inr ⟨_, by decide +kernel, call_listJ⟩
  · exact bif2_ok hc hu h
theorem tyn_ok {x : Str} {t : Tn} (h : tyns x = some t) : bootBuiltins x = some (.type t.name) := by
  unfold tyns at h
  split at h
  · rename_i e; subst e; cases h; decide +kernel
  split at h
  · rename_i e; subst e; cases h; decide +kernel
  split at h
  · rename_i e; subst e; cases h; decide +kernel
  split at h
  · rename_i e; subst e; cases h; decide +kernel
  split at h
  · rename_i e; subst e; cases h; decide +kernel
  split at h
  · rename_i e; subst e; cases h; decide +kernel
  · exact xtyn_ok h
def meths (x : Str) : Option (Tn × MPrim) :=
  if x = "append" then some (.list, appendD) else if x = "extend" then some (.list, extendD) else if x = "pop" then some (.list, popXD) else none
theorem meth_ok {X : Cx} {fa : Gl0} {x : Str} {q : Tn × MPrim} (h : meths x = some q) : MtI X fa q.1 x q.2 := by
  unfold meths at h
  split at h
  · rename_i e; subst e; cases h; exact m_append
  split at h
  · rename_i e; subst e; cases h; exact m_extend
  split at h
  · rename_i e; subst e; cases h; exact m_popX
  · cases h
end Jm

set_option Elab.async false
set_option linter.all false
set_option maxRecDepth 100000
set_option maxHeartbeats 4000000
/-! Jm, part P: the reading of a text, computed; that it is one. -/
noncomputable section
namespace Jm
open PySem PySem.Spec PyProof.Rows L2
def eBad {A : Type} : E A := fun _ _ => .bad
def gBad : G := fun _ _ _ => .bad
/-- one clause of a comprehension, read -/
structure LcP where
  f : E Itn
  vs : List Nat
  g : G
  t : E Bool
  fe : E D
def LcP.den (q : LcP) : E D := eLc q.f q.vs q.g q.t q.fe
/-- the readings of parts -/
structure Dn where
  e : Ct → Expr → E D
  t : Ct → Expr → E Bool
  w : Ct → Expr → E Bool
  g : List Nat → Ct → Expr → G
  s : Ct → Stmt → E Out
def Ct.blk (c : Ct) (scope : Scope) : Ct := { c with sc := relS scope c.sc, fn := fun x => scope.names.lookup x == some .cell }
def ownOf (N : List Str) (scope : Scope) : List (Str × Nat) := scope.names.filterMap fun y => match y.2 with
  | .local => (slot N y.1).map fun i => (y.1, i)
  | .cell => (slot N y.1).map fun i => (y.1, i)
  | _ => none
def locOk (c : Ct) (x : Str) : Bool := match c.sc.names.lookup x with
  | some .local => true
  | some .cell => c.fn x
  | _ => false
def visOk (c : Ct) (x : Str) : Bool := match c.sc.names.lookup x with
  | some .local => true
  | some .cell => true
  | some .free => true
  | _ => false
section
variable (d : Dn) (c : Ct)
def dAll (es : List Expr) : List (E D) := es.map (d.e c)
def dKws (ks : List Keyword) : List (E D) := ks.map fun k => d.e c k.value
def dName (x : Str) : E D :=
  if visOk c x = true then (if x = "__debug__" ∨ x = "__classdict__" then eBad else match slot c.N x with
    | some i => eVar i
    | none => eBad)
  else match glob c x with
    | some (.cst v) => eCst v
    | some (.fn i _ _) => eCst (.fn i)
    | some (.cls i) => eCst (.fn i)
    | some .free => (match tyns x with
      | some t => eCst (.ty t)
      | none => eBad)
    | _ => eBad
def dCst : Const → E D
  | .none => eCst .non
  | .bool b => eCst (.bl b)
  | .int i => eCst (.int i)
  | .str x => eCst (.str x)
  | _ => eBad
def notCall : Expr → Bool
  | .Call _ _ _ _ => false
  | _ => true
def dListRg (x : Str) (es : List Expr) : Option (E D) := match es with
  | [.Call (.Name y _) [a] [] _] => if x = "list" ∧ y = "range" ∧ noStar a = true ∧ isFree c y = true then some (eOp1 lstRg (d.e c a)) else if x = "tuple" ∧ y = "range" ∧ noStar a = true ∧ isFree c y = true then some (eOp1 tupRg (d.e c a)) else if x = "tuple" ∧ y = "reversed" ∧ noStar a = true ∧ isFree c y = true then some (eOp1 tupRv (d.e c a)) else if x = "len" ∧ y = "set" ∧ noStar a = true ∧ isFree c y = true then some (eOp1 nubD (d.e c a)) else none
  | [.Call (.Attribute b y apos) [] [] cpos] => if x = "list" ∧ y = "values" ∧ notCall b = true ∧ (apos.endLine == cpos.line) = true then some (eOp1 valsD (d.e c b)) else none
  | _ => none
def dZl (x : Str) (a : Expr) : Option (E D) := match a with
  | .Call (.Name y _) [a1, a2] [] _ => if x = "list" ∧ y = "zip" ∧ noStars [a1, a2] = true ∧ isFree c y = true then some (eOpN zipLD (dAll d c [a1, a2])) else none
  | _ => none
def dSetZ (x : Str) (es : List Expr) : Option (E D) := match es with
  | [a] => if x = "set" ∧ noStar a = true then some (eOp1 setD (d.e c a)) else dZl d c x a
  | _ => none
/-- classes of errors, by their names -/
def isXc1 : Expr → Bool
  | .Name y _ => match glob c y with
    | some (.cls _) => true
    | some .free => (xtyns y).isSome
    | _ => false
  | _ => false
def isXc : Expr → Bool
  | .Tuple (e :: _) _ _ => isXc1 c e
  | e => isXc1 c e
def dIst (x : Str) (es : List Expr) : Option (E D) := match es with
  | [a, b] => if x = "isinstance" ∧ noStars [a, b] = true ∧ isXc c b = true then some (eOpN (instC c.sub c.cl) (dAll d c [a, b])) else none
  | _ => none
def dIzZ (x : Str) (es : List Expr) : Option (E D) := match dIst d c x es with
  | some f => some f
  | none => dSetZ d c x es
/-- an own error made as a value -/
def dXv (i : Nat) (es : List Expr) (kws : List Keyword) : E D :=
  if i % 4 = 0 then (if es.isEmpty = true ∧ kws.isEmpty = true then eXv0 i else eBad)
  else match es with
    | [] => if kwNames kws = [fldName i] then eXv i (dKws d c kws) else eBad
    | [e] => if kws.isEmpty = true then eXv i [d.e c e] else eBad
    | _ => eBad
def dCallN (x : Str) (es : List Expr) (kws : List Keyword) : E D :=
  if noStars es = true ∧ kwOk kws = true ∧ c.calm = true then
    match glob c x with
    | some (.fn i ps kf) => if kws.isEmpty = true then eCall (c.cf i) (dAll d c es) else (match kf.find? fun q => decide (q.1 = es.length ∧ q.2.1 = kwNames kws) with
      | some q => eCallK (c.cf i) q.1 q.2.1.length q.2.2 (dAll d c es) (dKws d c kws)
      | none => eBad)
    | some (.mk i k f) => if kws.isEmpty = true ∧ es.isEmpty = false then eMk k f (c.cf i) (dAll d c es) else eBad
    | some (.cls i) => if i ∈ c.cl then dXv d c i es kws else eBad
    | some .free => if kws.isEmpty = true ∧ es.isEmpty = false then (match dIzZ d c x es with
      | some f => f
      | none => (match dListRg d c x es with
      | some f => f
      | none => (match bifs x with
      | some g => eOpN g (dAll d c es)
      | none => eBad))) else eBad
    | _ => eBad
  else if noStars es = true ∧ kws.isEmpty = true ∧ isFree c x = true then (match dIst d c x es with
    | some f => f
    | none => eBad) else eBad
def dMeth (o : Expr) (name : Str) (es : List Expr) (line : Bool) : E D :=
  if c.calm = true ∧ noStars es = true ∧ line = true ∧ es.length < 30 ∧ notCall o = true then
    if name = "get" then (if es.isEmpty = true then eBad else eGet (d.e c o) (dAll d c es)) else if name = "update" then (if es.isEmpty = true then eBad else eUpd (d.e c o) (dAll d c es)) else match meths name with
    | some q => eMeth q.1 q.2 (d.e c o) (dAll d c es)
    | none => (match c.gl.lookup (dotN name) with
      | some (.mth i k m) => if m = name ∧ es.isEmpty = false then eMth k name (c.cf i) (d.e c o) (dAll d c es) else eBad
      | _ => eBad)
  else eBad
def dAtr (e : Expr) (f : Str) : E D := if c.calm = true ∧ notCall e = true then (match c.gl.lookup (dotN f) with
    | some (.atr k g) => if g = f then eAtr k f (d.e c e) else eBad
    | some _ => eBad
    | none => if f ∈ flds then eXvf c.cl f (d.e c e) else eBad) else eBad
def dPart : Option Expr → Option (E D)
  | none => none
  | some e => some (d.e c e)
def dSub (a i : Expr) : E D := match i with
  | .Slice lo hi none _ => eSlc (d.e c a) (dPart d c lo) (dPart d c hi)
  | .Slice none none (some st) _ => if isM1 st = true then eOp1 revD (d.e c a) else eBad
  | i => if noSlice i = true then eOp2 idxD (d.e c a) (d.e c i) else eBad
/-- raise C() -/
def sRaise0 (i : Nat) : E Out := fun n S => .ok (.er i [] n) S
def isTup : Expr → Bool
  | .Tuple _ _ _ => true
  | _ => false
def dItCall (tg : Expr) (x : Str) (es : List Expr) : Option (E Itn) := match es with
  | [a] => if noStar a = true then (if x = "range" then some (iRng rng1 [d.e c a]) else if x = "reversed" then some (iRevd (d.e c a)) else if x = "enumerate" then (if isTup tg = true then some (iEnum (d.e c a)) else some eBad) else none) else none
  | [a, b] => if noStar a = true ∧ noStar b = true then (if x = "range" then some (iRng rng2 [d.e c a, d.e c b]) else if x = "zip" then (if isTup tg = true then some (iZip (d.e c a) (d.e c b)) else some eBad) else none) else none
  | [a, b, e] => if noStar a = true ∧ noStar b = true ∧ noStar e = true then (if x = "range" then some (iRng rng3 [d.e c a, d.e c b, d.e c e]) else none) else none
  | _ => none
def dIt (tg iter : Expr) : E Itn := match iter with
  | .Call (.Name x _) es [] _ => if isFree c x = true then (match dItCall d c tg x es with
    | some f => f
    | none => iVal (d.e c iter)) else iVal (d.e c iter)
  | .Call (.Attribute b y apos) [] [] cpos => if y = "items" ∧ notCall b = true ∧ (apos.endLine == cpos.line) = true ∧ isTup tg = true then iItm (d.e c b) else iVal (d.e c iter)
  | _ => iVal (d.e c iter)
def dTests (c' : Ct) : List Expr → Option (E Bool)
  | [] => some tTru
  | [t] => some (d.t c' t)
  | _ => none
def dLc (elt : Expr) (gs : List Comprehension) (scope : Scope) : Option LcP := match gs with
  | [⟨tg, iter, ifs, a⟩] => if c.calm = true ∧ a = 0 ∧ blkC c.N c.sc scope (ownOf c.N scope) = true ∧ noSet iter = true then
      (dTests d (c.blk scope) ifs).map fun t => ⟨dIt d c tg iter, (ownOf c.N scope).map (·.2), d.g ((ownOf c.N scope).map (·.2)) (c.blk scope) tg, t, d.e (c.blk scope) elt⟩
    else none
  | _ => none
def tgN1 : Expr → List Str
  | .Name x _ => [x]
  | _ => []
def tgN : Expr → List Str
  | .Tuple es _ _ => es.flatMap tgN1
  | e => tgN1 e
/-- the slots that the targets of some clauses have -/
def vsOf (own : List (Str × Nat)) (gs : List Comprehension) : List Nat := (own.filter fun p => decide (p.1 ∈ gs.flatMap fun g => tgN g.target)).map (·.2)
def dIn (own : List (Str × Nat)) : List Comprehension → Option (List LcC)
  | [] => some []
  | g :: gs => if g.is_async = 0 ∧ noSet g.iter = true then (match dTests d c g.ifs, dIn own gs with
    | some t, some r => some (⟨dIt d c g.target g.iter, vsOf own (g :: gs), d.g (vsOf own (g :: gs)) c g.target, t⟩ :: r)
    | _, _ => none) else none
/-- two clauses and more -/
def dLcN (elt : Expr) (gs : List Comprehension) (scope : Scope) : Option (E D) := match gs with
  | g0 :: g1 :: gs => if c.calm = true ∧ g0.is_async = 0 ∧ blkC c.N c.sc scope (ownOf c.N scope) = true ∧ noSet g0.iter = true then
      (match dTests d (c.blk scope) g0.ifs, dIn d (c.blk scope) (ownOf c.N scope) (g1 :: gs) with
      | some t, some r => some (eLcN ⟨dIt d c g0.target g0.iter, (ownOf c.N scope).map (·.2), d.g ((ownOf c.N scope).map (·.2)) (c.blk scope) g0.target, t⟩ r (d.e (c.blk scope) elt))
      | _, _ => none) else none
  | _ => none
def dLcE (elt : Expr) (gs : List Comprehension) (scope : Scope) : Option (E D) := match dLc d c elt gs scope with
  | some q => some q.den
  | none => dLcN d c elt gs scope
def stepE : Expr → E D
  | .Dict [] [] _ => eDct
  | .Dict [some (.Constant (.str k) _ _)] [.Constant (.int v) _ _] _ => eDct1 k v
  | .Dict [some k] [v] _ => eDctN (d.e c k) (d.e c v)
  | .Name x _ => dName c x
  | .Constant k _ _ => dCst k
  | .BinOp a op b _ => match binD op with
    | some g => eOp2 g (d.e c a) (d.e c b)
    | none => eBad
  | .UnaryOp op a _ => match op with
    | .USub => eOp1 negD (d.e c a)
    | .Not => eNot (d.e c a)
    | _ => eBad
  | .BoolOp op [a] _ => d.e c a
  | .BoolOp op (a :: b :: es) pos => match op with
    | .And => eAnd (d.e c a) (d.e c (.BoolOp .And (b :: es) pos))
    | .Or => eOr (d.e c a) (d.e c (.BoolOp .Or (b :: es) pos))
  | .Compare a [op] [b] _ => if behindInMarks op b = false then eOp2 (cmpX op) (d.e c a) (d.e c b) else eBad
  | .Compare a [op, op'] [b, e] _ => if lastMarks [op, op'] [b, e] = false then eChain (cmpX op) (cmpX op') (d.e c a) (d.e c b) (d.e c e) else eBad
  | .IfExp t a b _ => eIf (d.t c t) (d.e c a) (d.e c b)
  | .Tuple es _ _ => if noStars es = true then eOpN mkTup (dAll d c es) else eBad
  | .List es _ => if noStars es = true then eOpN mkLst (dAll d c es) else eBad
  | .Subscript a i _ => dSub d c a i
  | .Call (.Name x _) es kws _ => dCallN d c x es kws
  | .Call (.Attribute o name apos) es [] pos => dMeth d c o name es (apos.endLine == pos.line)
  | .Attribute e f _ => if c.calm = false ∧ notCall e = true ∧ f ∈ flds then eFld f (d.e c e) else dAtr d c e f
  | .ListComp elt gs scope _ => match dLcE d c elt gs scope with
    | some f => f
    | none => eBad
  | _ => eBad
def stepW : Expr → E Bool
  | .BoolOp op [a] _ => d.t c a
  | .BoolOp op (a :: b :: es) pos => match op with
    | .And => eAndT (d.t c a) (d.w c (.BoolOp .And (b :: es) pos))
    | .Or => eOrT (d.t c a) (d.w c (.BoolOp .Or (b :: es) pos))
  | _ => eBad
def stepT : Expr → E Bool
  | .UnaryOp .Not a _ => eNotT (d.t c a)
  | .BoolOp op es pos => stepW d c (.BoolOp op es pos)
  | .IfExp t a b _ => eIf (d.t c t) (d.t c a) (d.t c b)
  | .Compare a [op] [b] _ => if behindInMarks op b = false then eBl (eOp2 (cmpX op) (d.e c a) (d.e c b)) else eBad
  | .Compare a [op, op'] [b, e] _ => if lastMarks [op, op'] [b, e] = false then eBl (eChain (cmpX op) (cmpX op') (d.e c a) (d.e c b) (d.e c e)) else eBad
  | e => if isTruthForm e = true then eTru (d.e c e) else eBad
def stepG (vs : List Nat) : Expr → G
  | .Name x _ => match slot c.N x with
    | some i => if i ∈ vs ∧ locOk c x = true then gNam i else gBad
    | none => gBad
  | .Tuple es _ _ => if c.calm = true ∧ noStars es = true then gTupl (es.map (d.g vs c)) else gBad
  | .Subscript o i _ => if noSlice i = true then gSubs (d.e c o) (d.e c i) else gBad
  | _ => gBad
/-- which stores are exchanged -/
def swp (sc : Scope) (ts vs : List Expr) : Option (Option (List Str)) :=
  if (!(ts.length == 2 || ts.length == 3) || vs.length != ts.length || sc.kind != .function) = true then some none
  else if (vs.any fun | .Starred .. => true | _ => false) = true then some none
  else
    let line := (ts.head?.map (·.pos.line)).getD 0
    let names := ts.filterMap fun
      | .Name id pos => if sc.names.lookup id == some .local && pos.line == line then some id else none
      | _ => none
    if (names.length != ts.length || names.eraseDups.length != names.length) = true then some none
    else if vs.all (foldedForSure 8) = true then some none
    else if vs.all (constantsAlone 8) = true then none
    else some (some names)
def dss (sts : List Stmt) : E Out := sts.foldr (fun st r => sSeq (d.s c st) r) sNil
def allS : List Nat := List.range c.N.length
def dPar (ts vs : List Expr) (ns : List Str) : E Out := match ts, vs with
  | [.Name x _, .Name y _], [a, b] => match slot c.N x, slot c.N y with
    | some i, some j => if c.calm = true ∧ i ≠ j ∧ noStar a = true ∧ noStar b = true ∧ ns = [x, y] ∧ c.sc.names.lookup x = some .local ∧ c.sc.names.lookup y = some .local then sPar i j (d.e c a) (d.e c b) else eBad
    | _, _ => eBad
  | [.Name x _, .Name y _, .Name z _], [a, b, e] => match slot c.N x, slot c.N y, slot c.N z with
    | some i, some j, some l => if c.calm = true ∧ (i ≠ j ∧ i ≠ l ∧ j ≠ l) ∧ (noStar a = true ∧ noStar b = true ∧ noStar e = true) ∧ ns = [x, y, z] ∧ c.sc.names.lookup x = some .local ∧ c.sc.names.lookup y = some .local ∧ c.sc.names.lookup z = some .local then sPar3 i j l (d.e c a) (d.e c b) (d.e c e) else eBad
    | _, _, _ => eBad
  | _, _ => eBad
def dAsg (tg e : Expr) : E Out := match tg, e with
  | .Tuple ts k p, .Tuple vs k2 p2 => if c.sc.kind = .function then (match swp c.sc ts vs with
    | some none => sAsgn (d.e c e) (d.g (allS c) c tg)
    | some (some ns) => dPar d c ts vs ns
    | none => eBad) else eBad
  | .Name y py, .ListComp elt gs scope p => if c.sc.kind = .function ∧ c.sc.names.lookup y = some .local ∧ (py.line == p.line) = true ∧ (scope.names.any fun (n, k) => n == y && (k == .local || k == .cell)) = false then
      (match slot c.N y, dLcE d c elt gs scope with
      | some i, some f => sAsgn f (gNam i)
      | _, _ => eBad) else if c.sc.names.lookup y = some .cell then sAsgn (d.e c (.ListComp elt gs scope p)) (d.g (allS c) c (.Name y py)) else eBad
  | .List _ _, _ => eBad
  | tg, e => if noStar tg = true ∧ (noComp e = true ∨ isTup tg = true) then sAsgn (d.e c e) (d.g (allS c) c tg) else eBad
/-- the clauses of a try -/
def dCls : List ExceptHandler → Option (List HC)
  | [] => some []
  | .ExceptHandler (some (.Name x _)) nm (b :: su) _ :: hs => match glob c x, dCls hs with
    | some (.cls j), some l => (match nm with
      | none => some (⟨fun i => if i ∈ c.cl then c.sub.lookup (i, j) else none, none, dss d { c with calm := false } (b :: su)⟩ :: l)
      | some n => if c.sc.names.lookup n = some .local then (match slot c.N n with
        | some i => some (⟨fun i => if i ∈ c.cl then c.sub.lookup (i, j) else none, some i, dss d { c with calm := false } (b :: su)⟩ :: l)
        | none => none) else none)
    | _, _ => none
  | _ => none
def stepS : Stmt → E Out
  | .Expr (.Constant (.str _) _ _) _ => sNil
  | .Expr e _ => if noComp e = true then sExp (d.e c e) else eBad
  | .Assign [tg] e _ => dAsg d c tg e
  | .If t a b _ => sIf (d.t c t) (dss d c a) (dss d c b)
  | .For tg iter body [] _ => if c.calm = true ∧ noSet iter = true then sFor (dIt d c tg iter) (d.g (allS c) c tg) (dss d c body) else eBad
  | .While t body [] _ => if c.calm = true then sWhile (d.t c t) (dss d c body) else eBad
  | .Return (some e) _ => sRet (d.e c e)
  | .Return none _ => sRetN
  | .Pass _ => sNil
  | .Break _ => sBrk
  | .Continue _ => sCnt
  | .Raise (some (.Call (.Name x _) [e] [] _)) none _ => (match glob c x with
    | some (.cls i) => if c.calm = true ∧ noStar e = true ∧ i % 4 ≠ 0 ∧ i ∈ c.cl then sRaise i [d.e c e] else eBad
    | _ => eBad)
  | .Raise (some (.Call (.Name x _) [] [] _)) none _ => (match glob c x with
    | some (.cls i) => if c.calm = true ∧ i % 4 = 0 ∧ i ∈ c.cl then sRaise0 i else eBad
    | _ => eBad)
  | .Try body (h0 :: hs) [] [] _ => if c.calm = true then (match dCls d c (h0 :: hs) with
    | some l => sTry (dss d c body) l
    | none => eBad) else eBad
  | _ => eBad
end
def step (d : Dn) : Dn := ⟨stepE d, stepT d, stepW d, fun vs c => stepG d c vs, stepS d⟩
def den : Nat → Dn
  | 0 => ⟨fun _ _ => eBad, fun _ _ => eBad, fun _ _ => eBad, fun _ _ _ => gBad, fun _ _ => eBad⟩
  | n + 1 => step (den n)

/-! ### nothing is promised -/
section
variable {X : Cx} {fa : Gl0} {W : WX} {e : Expr} {es : List Expr} {st : Stmt} {sts : List Stmt}
theorem b_e : PE X e (xE (rc X fa) W eBad) := ⟨fun pins s σ H Q I ⟨_, _, _, _, _, h⟩ => h.elim⟩
theorem b_t : PT X e (xT (rc X fa) W eBad) := ⟨fun pins s σ H Q I ⟨_, _, _, _, _, h⟩ => h.elim⟩
theorem b_w : PW X e (xT (rc X fa) W eBad) := ⟨fun wh pins s σ H Q I ⟨_, _, _, _, _, h⟩ => h.elim⟩
theorem b_g {vs : List Nat} : PG X e (xG (rc X fa) W vs gBad) := ⟨fun pins s σ H v u Q I r ⟨_, _, _, _, _, _, _, h⟩ => h.elim⟩
theorem b_s : PS X st (xS (rc X fa) W eBad) := ⟨fun pins s σ H D I ⟨_, _, _, _, _, h⟩ => h.elim⟩
theorem b_i {tg : Expr} : PI X tg e (xI (rc X fa) W eBad) := impI (fi_val (fa := fa) (W := W) b_e) fun s H Q ⟨_, _, _, _, _, h⟩ => False.elim h
theorem and1_e {op : BoolOp} {pos : Pos} {t : TE} (h : PE X e t) : PE X (.BoolOp op [e] pos) t := ⟨fun pins s σ H Q I hw => h.run pins s σ H Q I hw⟩
end
end Jm

set_option Elab.async false
set_option linter.all false
set_option maxRecDepth 100000
set_option maxHeartbeats 4000000
/-! Jm, part Q: the computed reading is one. -/
noncomputable section
namespace Jm
open PySem PySem.Spec PyProof.Rows L2
/-- what statements want of the context -/
structure StOk (c : Ct) (X : Cx) : Prop where
  ps : c.calm = true → PassesOwn (model X.prog X.w) X.A X.env X.xe
  st : c.calm = true → X.stack = X.env :: X.outer
  fr : c.calm = true → X.env.frame = some X.env.locals
structure Snd (d : Dn) : Prop where
  e : ∀ {fa : Gl0} {c : Ct} {X : Cx} {W : WX}, CxOk c fa X W → ∀ e, PE X e (xE (rc X fa) W (d.e c e))
  t : ∀ {fa : Gl0} {c : Ct} {X : Cx} {W : WX}, CxOk c fa X W → ∀ e, PT X e (xT (rc X fa) W (d.t c e))
  w : ∀ {fa : Gl0} {c : Ct} {X : Cx} {W : WX}, CxOk c fa X W → ∀ e, PW X e (xT (rc X fa) W (d.w c e))
  g : ∀ {fa : Gl0} {c : Ct} {X : Cx} {W : WX}, CxOk c fa X W → ∀ vs tg, PG X tg (xG (rc X fa) W vs (d.g vs c tg))
  s : ∀ {fa : Gl0} {c : Ct} {X : Cx} {W : WX}, CxOk c fa X W → StOk c X → ∀ st, PS X st (xS (rc X fa) W (d.s c st))
section
variable {fa : Gl0} {d : Dn} {c : Ct} {X : Cx} {W : WX}
theorem band {a b : Bool} (h : (a && b) = true) : a = true ∧ b = true := Bool.and_eq_true_iff.mp h
theorem q_all (S : Snd d) (o : CxOk c fa X W) : ∀ {es : List Expr}, noStars es = true → PA X es (xA (rc X fa) W (eAll (dAll d c es)))
  | [], _ => f_nil
  | e :: es, h => f_cons (S.e o e) (q_all S o (band h).2) (star_cons (band h).1)
theorem q_kws (S : Snd d) (o : CxOk c fa X W) : ∀ {ks : List Keyword}, PK X ks (xA (rc X fa) W (eAll (dKws d c ks)))
  | [] => f_knil
  | ⟨a, v, q⟩ :: ks => f_kcons (S.e o v) (q_kws S o)
theorem q_name (o : CxOk c fa X W) {x : Str} {pos : Pos} : PE X (.Name x pos) (xE (rc X fa) W (dName c x)) := by
  unfold dName
  by_cases hv : visOk c x = true
  · rw [if_pos hv]
    by_cases hb : x = "__debug__" ∨ x = "__classdict__"
    · rw [if_pos hb]; exact b_e
    · rw [if_neg hb]
      cases hs : slot c.N x with
      | none => exact b_e
      | some i =>
        refine f_var (by rw [o.hN]; exact slot_ok hs) ?_ (by simpa using fun z => hb (.inl z)) (by simpa using fun z => hb (.inr z))
        rw [o.sc]
        unfold visOk at hv
        split at hv
        · rename_i e; exact .inl e
        · rename_i e; exact .inr (.inl e)
        · rename_i e; exact .inr (.inr e)
        · cases hv
  · rw [if_neg hv]
    cases hg : glob c x with
    | none => exact b_e
    | some g =>
      obtain ⟨h1, h2, h3, h4⟩ := glob_ok o hg
      obtain ⟨dd, _, q⟩ := o.rm
      have hq := q _ _ h4
      cases g with
      | fn i ps kf => exact f_cst (pe_glob (v := .ref (fa.fa i)) h1 hq.1 rfl h2) fun p H => .fn (R := rc X fa) i
      | cls i => exact f_cst (pe_glob (v := .ref (fa.fa i)) h1 hq rfl h2) fun p H => .fn (R := rc X fa) i
      | mk i k f => exact b_e
      | mth i k m => exact b_e
      | atr k f => exact b_e
      | cst e =>
        obtain ⟨u, v, e1, e2, e3⟩ := hq
        exact f_cst (pe_glob h1 e1 e2 h2) e3
      | free =>
        show PE X _ (xE (rc X fa) W (match tyns x with | some t => eCst (.ty t) | none => eBad))
        cases ht : tyns x with
        | none => exact b_e
        | some t => exact f_cst (pe_bltn (v := .ty t.name) h1 hq (tyn_ok ht) rfl h3 h2) fun p H => .ty t
theorem q_cst {k : Const} {j : Nat} {pos : Pos} : PE X (.Constant k j pos) (xE (rc X fa) W (dCst k)) := by
  cases k with
  | none => exact f_cst pe_non fun _ _ => .non
  | bool b => exact f_cst pe_bl fun _ _ => .bl b
  | int i => exact f_cst pe_int fun _ _ => .int i
  | str x => exact f_cst pe_str fun _ _ => .str x
  | _ => exact b_e
theorem base_no {o : Expr} {name : Str} {env : Env} (h : notCall o = true) : attributeBase o name env (eval o env) = eval o env := by
  cases o <;> first | rfl | cases h
theorem q_listRg (S : Snd d) (o : CxOk c fa X W) (hcm : c.calm = true) {x : Str} {q : Pos} {es : List Expr} {pos : Pos} {f : E D} (hg : Gl X x) (hm : X.mg x = none) (h : dListRg d c x es = some f) : PE X (.Call (.Name x q) es [] pos) (xE (rc X fa) W f) := by
  unfold dListRg at h
  split at h
  · split at h
    · rename_i hh
      obtain ⟨e1, e2, e3, e4⟩ := hh
      cases h
      subst e1 e2
      obtain ⟨g1, _, _, g4⟩ := free_ok o e4
      exact f_lstRg (o.calm hcm) hg hm g1 g4 (S.e o _) (star_cons e3)
    split at h
    · rename_i hh
      obtain ⟨e1, e2, e3, e4⟩ := hh
      cases h
      subst e1 e2
      obtain ⟨g1, _, _, g4⟩ := free_ok o e4
      exact f_tupRg (o.calm hcm) hg hm g1 g4 (S.e o _) (star_cons e3)
    split at h
    · rename_i hh
      obtain ⟨e1, e2, e3, e4⟩ := hh
      cases h
      subst e1 e2
      obtain ⟨g1, _, _, g4⟩ := free_ok o e4
      exact f_tupRv (o.calm hcm) hg hm g1 g4 (S.e o _) (star_cons e3)
    split at h
    · rename_i hh
      obtain ⟨e1, e2, e3, e4⟩ := hh
      cases h
      subst e1 e2
      obtain ⟨g1, _, _, g4⟩ := free_ok o e4
      exact f_nub (o.calm hcm) o.hu hg hm g1 g4 (S.e o _) (star_cons e3)
    · cases h
  · split at h
    · rename_i hh
      obtain ⟨e1, e2, e3, e4⟩ := hh
      cases h
      subst e1 e2
      exact f_vals (o.calm hcm) hg hm (S.e o _) (base_no e3) e4
    · cases h
  · cases h
theorem q_setZ (S : Snd d) (o : CxOk c fa X W) (hcm : c.calm = true) {x : Str} {q : Pos} {es : List Expr} {pos : Pos} {f : E D} (hg : Gl X x) (hm : X.mg x = none) (h : dSetZ d c x es = some f) : PE X (.Call (.Name x q) es [] pos) (xE (rc X fa) W f) := by
  unfold dSetZ at h
  split at h
  · split at h
    · rename_i hh
      obtain ⟨e1, e2⟩ := hh
      cases h
      subst e1
      exact f_set (o.calm hcm) o.hu hg hm (S.e o _) (star_cons e2)
    · unfold dZl at h
      split at h
      · split at h
        · rename_i hh
          obtain ⟨e1, e2, e3, e4⟩ := hh
          cases h
          subst e1 e2
          obtain ⟨g1, _, _, g4⟩ := free_ok o e4
          exact f_zl (o.calm hcm) hg hm g1 g4 (q_all S o e3) (star_cons (band e3).1) (stars_any (band e3).2)
        · cases h
      · cases h
  · cases h
theorem q_ist (S : Snd d) (o : CxOk c fa X W) {x : Str} {q : Pos} {es : List Expr} {pos : Pos} {f : E D} (hg : Gl X x) (hm : X.mg x = none) (h : dIst d c x es = some f) : PE X (.Call (.Name x q) es [] pos) (xE (rc X fa) W f) := by
  unfold dIst at h
  split at h
  · rename_i a b
    split at h
    · rename_i hh
      obtain ⟨e1, e2, e3⟩ := hh
      cases h
      subst e1
      refine f_bif (call_instC o.clx o.sub fun a c' dd he => ?_) hg hm (by decide +kernel) (q_all S o e2) (by decide) (by decide) (star_cons (band e2).1) (stars_any (band e2).2)
      cases hcm : c.calm with
      | true => rw [o.exn hcm] at he; cases he
      | false =>
        obtain ⟨X0, a0, oe, i, dd0, pn, rfl, hex, hi, hz, hf⟩ := o.sui hcm
        rw [hex] at he
        cases he
        exact ⟨oe, hz, hf, fun pins σ H s I => (I.pin (a, oe) (List.mem_append.mpr (.inl List.mem_cons_self))).1⟩
    · cases h
  · cases h
theorem q_izZ (S : Snd d) (o : CxOk c fa X W) (hcm : c.calm = true) {x : Str} {q : Pos} {es : List Expr} {pos : Pos} {f : E D} (hg : Gl X x) (hm : X.mg x = none) (h : dIzZ d c x es = some f) : PE X (.Call (.Name x q) es [] pos) (xE (rc X fa) W f) := by
  unfold dIzZ at h
  cases hi : dIst d c x es with
  | some g => rw [hi] at h; cases h; exact q_ist S o hg hm hi
  | none => rw [hi] at h; exact q_setZ S o hcm hg hm h
theorem q_xv (S : Snd d) (o : CxOk c fa X W) (hcm : c.calm = true) {x : Str} {q : Pos} {es : List Expr} {kws : List Keyword} {pos : Pos} {i : Nat} (hes : noStars es = true) (hkw : kwOk kws = true) (hi : i ∈ c.cl) (hg : Gl X x) (hm : X.mg x = some (.ref (fa.fa i))) (hdb : (x == ("__debug__" : Str)) = false) :
    PE X (.Call (.Name x q) es kws pos) (xE (rc X fa) W (dXv d c i es kws)) := by
  obtain ⟨dd, hr, _⟩ := o.rm
  have hr := (hr hcm).mono (by omega : 2 ≤ dd + 2)
  unfold dXv
  split
  · rename_i h0
    split
    · rename_i hh
      cases es with
      | cons _ _ => cases hh.1
      | nil => cases kws with
        | cons _ _ => cases hh.2
        | nil => exact f_xv0 (o.x0 i hi h0) (o.clx i hi).ox.kC hg hm hdb
    · exact b_e
  · rename_i h0
    split
    · split
      · rename_i hn
        have ha := kw_all (pos := pos) (env := X.env) hkw
        exact f_xvK (gs := []) hr (o.cls i hi h0) hg hm (q_kws S o) ha.1 (kw_names.trans hn) hdb (by rw [ha.2]; rfl)
      · exact b_e
    · rename_i e
      split
      · rename_i hk
        cases kws with
        | cons _ _ => cases hk
        | nil => exact f_xv hr (o.cls i hi h0) hg hm (q_all S o (es := [e]) hes) hdb (star_cons (band hes).1)
      · exact b_e
    · exact b_e
theorem q_callN (S : Snd d) (o : CxOk c fa X W) {x : Str} {q : Pos} {es : List Expr} {kws : List Keyword} {pos : Pos} : PE X (.Call (.Name x q) es kws pos) (xE (rc X fa) W (dCallN d c x es kws)) := by
  unfold dCallN
  by_cases hst : noStars es = true ∧ kwOk kws = true ∧ c.calm = true
  · rw [if_pos hst]
    obtain ⟨hes, hkw, hcm⟩ := hst
    cases hg : glob c x with
    | none => exact b_e
    | some g =>
      obtain ⟨h1, h2, h3, h4⟩ := glob_ok o hg
      obtain ⟨dd, hr, hq⟩ := o.rm
      have hr := hr hcm
      have hq := hq _ _ h4
      cases g with
      | cst e => exact b_e
      | cls i =>
        show PE X _ (xE (rc X fa) W (if i ∈ c.cl then dXv d c i es kws else eBad))
        by_cases hi : i ∈ c.cl
        · rw [if_pos hi]; exact q_xv S o hcm hes hkw hi h1 hq h2
        · rw [if_neg hi]; exact b_e
      | mth i k m => exact b_e
      | atr k f => exact b_e
      | mk i k f =>
        obtain ⟨hm, hq⟩ := hq
        obtain ⟨kk, fI, fd, ps, hk, I, F, hb⟩ := hq hcm
        show PE X _ (xE (rc X fa) W (if kws.isEmpty = true ∧ es.isEmpty = false then eMk k f (c.cf i) (dAll d c es) else eBad))
        by_cases hke : kws.isEmpty = true ∧ es.isEmpty = false
        · rw [if_pos hke]
          cases kws with
          | cons a b => exact absurd hke.1 (by simp)
          | nil =>
            cases es with
            | nil => exact absurd hke.2 (by simp)
            | cons e es => exact f_mk I F (hr.mono hk) h1 hm hb (q_all S o hes) h2 (star_cons (band hes).1) (stars_any (band hes).2)
        · rw [if_neg hke]; exact b_e
      | fn i ps kf =>
        obtain ⟨hm, hq⟩ := hq
        obtain ⟨fd, F, hb, hk, hkb⟩ := hq hcm
        show PE X _ (xE (rc X fa) W (if kws.isEmpty = true then eCall (c.cf i) (dAll d c es) else (match kf.find? fun q => decide (q.1 = es.length ∧ q.2.1 = kwNames kws) with
          | some q => eCallK (c.cf i) q.1 q.2.1.length q.2.2 (dAll d c es) (dKws d c kws)
          | none => eBad)))
        by_cases hke : kws.isEmpty = true
        · rw [if_pos hke]
          cases kws with
          | cons a b => cases hke
          | nil =>
            cases es with
            | nil => exact f_call0 F o.tk hr h1 hm hk hb h2
            | cons e es => exact f_call F o.tk hr h1 hm hk hb (q_all S o hes) h2 (star_cons (band hes).1) (stars_any (band hes).2)
        · rw [if_neg hke]
          cases hf : kf.find? fun q => decide (q.1 = es.length ∧ q.2.1 = kwNames kws) with
          | none => exact b_e
          | some r =>
            obtain ⟨n, ks, ix⟩ := r
            have hn : n = es.length ∧ ks = kwNames kws := by simpa using List.find?_some hf
            have hb2 := hkb _ (List.mem_of_find?_eq_some hf)
            have ha := kw_all (pos := pos) (env := X.env) hkw
            cases es with
            | nil => exact f_callK0 F o.tk hr h1 hm hk hb2 (q_kws S o) ha.1 (kw_names.trans hn.2.symm) h2 (by rw [ha.2]; rfl)
            | cons e es => exact f_callK F o.tk hr h1 hm hk hb2 (q_all S o hes) (q_kws S o) ha.1 (kw_names.trans hn.2.symm) h2 (star_cons (band hes).1) (by rw [ha.2, stars_any hes]; rfl)
      | free =>
        show PE X _ (xE (rc X fa) W (if kws.isEmpty = true ∧ es.isEmpty = false then (match dIzZ d c x es with
          | some f => f
          | none => (match dListRg d c x es with
          | some f => f
          | none => (match bifs x with
          | some g => eOpN g (dAll d c es)
          | none => eBad))) else eBad))
        by_cases hke : kws.isEmpty = true ∧ es.isEmpty = false
        · rw [if_pos hke]
          cases kws with
          | cons a b => exact absurd hke.1 (by simp)
          | nil =>
            cases es with
            | nil => exact absurd hke.2 (by simp)
            | cons e es =>
              cases hsz : dIzZ d c x (e :: es) with
              | some f => exact q_izZ S o hcm h1 hq hsz
              | none =>
              dsimp only
              cases hlr : dListRg d c x (e :: es) with
              | some f => exact q_listRg S o hcm h1 hq hlr
              | none =>
              dsimp only
              cases hbf : bifs x with
              | none => exact b_e
              | some g =>
                rcases bif_ok (fa := fa) (o.calm hcm) o.hu hbf with ⟨id, b1, b2⟩ | ⟨T, b1, b2⟩
                · exact f_bif b2 h1 hq b1 (q_all S o hes) h3 h2 (star_cons (band hes).1) (stars_any (band hes).2)
                · exact f_bty b2 h1 hq b1 (q_all S o hes) h3 h2 (star_cons (band hes).1) (stars_any (band hes).2)
        · rw [if_neg hke]; exact b_e
  · rw [if_neg hst]
    split
    · rename_i hh
      obtain ⟨_, hk, hf⟩ := hh
      obtain ⟨g1, _, _, g4⟩ := free_ok o hf
      split
      · rename_i f hi
        cases kws with
        | cons _ _ => cases hk
        | nil => exact q_ist S o g1 g4 hi
      · exact b_e
    · exact b_e
theorem meth_ev {o : Expr} {nm : Str} {apos pos : Pos} {es : List Expr} {env : Env} (hb : attributeBase o nm env (eval o env) = eval o env) (hfew : methodCallForm (es.length + ([] : List Keyword).length) (backTo pos (starEach es env)) (backToKw pos (keywordEach [] env)) = true) (hline : (apos.endLine == pos.line) = true) :
    ∃ pl : Sem Bool, eval ((o.Attribute nm apos).Call es [] pos) env = (do
      let ov ← eval o env
      standAt apos.atName
      let (f, first) ← holding [ov] (getMethod ov nm pl)
      callWith pos f first (backTo pos (starEach es env)) (backToKw pos (keywordEach [] env))) := by
  refine ⟨(do let m ← importBound o env; pure (m.getD true)), ?_⟩
  have e : eval ((o.Attribute nm apos).Call es [] pos) env = (do
      let ov ← attributeBase o nm env (eval o env)
      standAt apos.atName
      methodCall o nm apos pos env ov (es.length + ([] : List Keyword).length) (backTo pos (starEach es env)) (backToKw pos (keywordEach [] env))) := rfl
  rw [e, hb]
  unfold methodCall
  rw [hfew]
  unfold calleeOf methodCallPos
  simp only [hline]
  rfl
theorem q_meth (S : Snd d) (o : CxOk c fa X W) {b : Expr} {name : Str} {es : List Expr} {apos pos : Pos} : PE X (.Call (.Attribute b name apos) es [] pos) (xE (rc X fa) W (dMeth d c b name es (apos.endLine == pos.line))) := by
  unfold dMeth
  split
  · rename_i h
    obtain ⟨hcm, h1, h2, h3, h5⟩ := h
    split
    · rename_i hnm
      subst hnm
      cases es with
      | nil => exact b_e
      | cons e es =>
        refine f_get o.hu (S.e o b) (q_all S o h1) (base_no h5) ?_ h2 (star_cons (band h1).1) (stars_any (band h1).2)
        rw [stars_all h1]
        have : (e :: es).length + ([] : List Keyword).length + (if ([] : List Keyword).isEmpty then 0 else 1) < 30 := h3
        simp only [Bool.true_and, Bool.and_eq_true, decide_eq_true_eq]
        exact ⟨rfl, this⟩
    split
    · rename_i hnm
      subst hnm
      cases es with
      | nil => exact b_e
      | cons e es =>
        refine f_upd o.hu (S.e o b) (q_all S o h1) (base_no h5) ?_ h2 (star_cons (band h1).1) (stars_any (band h1).2)
        rw [stars_all h1]
        have : (e :: es).length + ([] : List Keyword).length + (if ([] : List Keyword).isEmpty then 0 else 1) < 30 := h3
        simp only [Bool.true_and, Bool.and_eq_true, decide_eq_true_eq]
        exact ⟨rfl, this⟩
    cases hm : meths name with
    | none =>
      dsimp only
      cases hl : c.gl.lookup (dotN name) with
      | none => exact b_e
      | some g =>
        obtain ⟨dd, hr, hq⟩ := o.rm
        have hq := hq _ _ hl
        cases g with
        | mth i k m =>
          obtain ⟨hC, hM, fd, ps, F, hb⟩ := hq hcm
          show PE X _ (xE (rc X fa) W (if m = name ∧ es.isEmpty = false then eMth k name (c.cf i) (d.e c b) (dAll d c es) else eBad))
          by_cases hke : m = name ∧ es.isEmpty = false
          · rw [if_pos hke]
            obtain ⟨rfl, hke⟩ := hke
            cases es with
            | nil => cases hke
            | cons e es => exact f_mth hC hM F (hr hcm) hb (S.e o b) (q_all S o h1) (star_cons (band h1).1) (stars_any (band h1).2) (meth_ev (base_no h5) (by
              unfold methodCallForm
              rw [stars_all h1]
              have : (e :: es).length + ([] : List Keyword).length + (if ([] : List Keyword).isEmpty then 0 else 1) < 30 := h3
              simp only [Bool.true_and, Bool.and_eq_true, decide_eq_true_eq]
              exact ⟨rfl, this⟩) h2)
          · rw [if_neg hke]; exact b_e
        | _ => exact b_e
    | some q =>
      have M := meth_ok (X := X) (fa := fa) hm
      cases es with
      | nil => exact f_meth0 M (S.e o b) (base_no h5) h2
      | cons e es =>
        refine f_meth M (S.e o b) (q_all S o h1) (base_no h5) ?_ h2 (star_cons (band h1).1) (stars_any (band h1).2)
        rw [stars_all h1]
        have : (e :: es).length + ([] : List Keyword).length + (if ([] : List Keyword).isEmpty then 0 else 1) < 30 := h3
        simp only [Bool.true_and, Bool.and_eq_true, decide_eq_true_eq]
        exact ⟨rfl, this⟩
  · exact b_e
theorem q_part (S : Snd d) (o : CxOk c fa X W) : ∀ e : Option Expr, PO X e (xO (rc X fa) W (ePart (dPart d c e)))
  | none => o_none
  | some e => o_some (S.e o e)
theorem q_sub (S : Snd d) (o : CxOk c fa X W) {a i : Expr} {pos : Pos} : PE X (.Subscript a i pos) (xE (rc X fa) W (dSub d c a i)) := by
  have other : ∀ {i : Expr}, noSlice i = true → PE X (.Subscript a i pos) (xE (rc X fa) W (eOp2 idxD (d.e c a) (d.e c i))) := fun h => f_idx o.hu (S.e o a) (S.e o _) h
  cases i with
  | Slice lo hi st p =>
    cases st with
    | none => exact f_slc (S.e o a) (q_part S o lo) (q_part S o hi)
    | some st =>
      cases lo with
      | none =>
        cases hi with
        | none =>
          show PE X _ (xE (rc X fa) W (if isM1 st = true then eOp1 revD (d.e c a) else eBad))
          split
          · rename_i h; exact f_rev h (S.e o a)
          · exact b_e
        | some _ => exact b_e
      | some _ => exact b_e
  | _ => exact other rfl
theorem q_itcall (S : Snd d) (o : CxOk c fa X W) {tg : Expr} {x : Str} {q pos : Pos} {es : List Expr} {f : E Itn} (hx : isFree c x = true) (h : dItCall d c tg x es = some f) : PI X tg (.Call (.Name x q) es [] pos) (xI (rc X fa) W f) := by
  obtain ⟨h1, h2, h3, h4⟩ := free_ok o hx
  unfold dItCall at h
  split at h
  · rename_i a
    split at h
    · rename_i ha
      split at h
      · rename_i e; subst e; cases h
        exact fi_rng1 h1 h4 (q_all S o (es := [a]) (by simp [noStars, ha])) (star_cons ha)
      split at h
      · rename_i e; subst e; cases h
        exact fi_rev h1 h4 (S.e o a) (star_cons ha)
      split at h
      · rename_i e; subst e
        cases tg with
        | Tuple elts k p =>
          cases h
          exact fi_enum h1 h4 (S.e o a) (star_cons ha)
        | _ => cases h; exact b_i
      · cases h
    · cases h
  · rename_i a b
    split at h
    · rename_i hab
      split at h
      · rename_i e; subst e; cases h
        exact fi_rng2 h1 h4 (q_all S o (es := [a, b]) (by simp [noStars, hab.1, hab.2])) (by rw [star_cons hab.1, star_cons hab.2]; rfl) (star_cons hab.2)
      split at h
      · rename_i e; subst e
        cases tg with
        | Tuple elts k p =>
          cases h
          exact fi_zip h1 h4 (S.e o a) (S.e o b) (star_cons hab.1) (star_cons hab.2) (stars_any (by simp [noStars, hab.2]))
        | _ => cases h; exact b_i
      · cases h
    · cases h
  · rename_i a b e
    split at h
    · rename_i hab
      split at h
      · rename_i e; subst e; cases h
        exact fi_rng3 h1 h4 (q_all S o (es := [a, b, e]) (by simp [noStars, hab.1, hab.2.1, hab.2.2])) (star_cons hab.1) (stars_any (by simp [noStars, hab.2.1, hab.2.2]))
      · cases h
    · cases h
  · cases h
theorem q_it (S : Snd d) (o : CxOk c fa X W) {tg iter : Expr} : PI X tg iter (xI (rc X fa) W (dIt d c tg iter)) := by
  unfold dIt
  split
  · rename_i x q es pos
    split
    · rename_i hx
      cases h : dItCall d c tg x es with
      | some f => exact q_itcall S o hx h
      | none => exact fi_val (S.e o _)
    · exact fi_val (S.e o _)
  · rename_i b y apos cpos
    split
    · rename_i h
      obtain ⟨rfl, h1, h2, h3⟩ := h
      cases tg with
      | Tuple elts k p => exact fi_itm (S.e o _) (base_no h1) h2
      | _ => cases h3
    · exact fi_val (S.e o _)
  · exact fi_val (S.e o _)
/-- a block's context -/
theorem CxOk.blk (o : CxOk c fa X W) (hcm : c.calm = true) {scope : Scope} {s : Shared} {H : Hp} {C : Addr} {cl : List (Str × Addr)} {fp : List Addr} : CxOk (c.blk scope) fa (X.blk s H scope (compEnvC scope cl C X.env) fp) W0 where
  hN := o.hN
  sc := by
    show relS scope X.env.scope = relS scope c.sc
    rw [o.sc]
  fn := rfl
  nd := o.nd
  calm := o.calm
  tk := takes0
  hu := o.hu
  rm := o.rm
  cls := o.cls
  fld := o.fld
  sub := o.sub
  clx := o.clx
  x0 := o.x0
  exn := o.exn
  sui := fun z => by
    have : c.calm = false := z
    rw [hcm] at this
    cases this
theorem q_tests (S : Snd d) (o : CxOk c fa X W) {ifs : List Expr} {t : E Bool} (h : dTests d c ifs = some t) : PTs X ifs (xT (rc X fa) W t) := by
  unfold dTests at h
  split at h
  · cases h; exact f_tests0
  · rename_i e
    cases h
    exact pts_one (S.t o e)
  · cases h
/-- the parts of a comprehension, as its rules want them -/
theorem q_lc (S : Snd d) (o : CxOk c fa X W) {elt : Expr} {gs : List Comprehension} {scope : Scope} {q : LcP} (h : dLc d c elt gs scope = some q) : ∃ (tg iter : Expr) (ifs : List Expr) (own : List (Str × Nat)), c.calm = true ∧ gs = [⟨tg, iter, ifs, 0⟩] ∧ q.vs = own.map (·.2) ∧ BlkOk X.N X.env.scope scope own ∧ noSet iter = true ∧
    PI X tg iter (xI (rc X fa) W q.f) ∧ (∀ (s : Shared) (H : Hp) (C : Addr) (cl : List (Str × Addr)) (fp : List Addr), PG (X.blk s H scope (compEnvC scope cl C X.env) fp) tg (xG (rc X fa) W0 q.vs q.g)) ∧
    (∀ (s : Shared) (H : Hp) (C : Addr) (cl : List (Str × Addr)) (fp : List Addr), PTs (X.blk s H scope (compEnvC scope cl C X.env) fp) ifs (xT (rc X fa) W0 q.t)) ∧
    (∀ (s : Shared) (H : Hp) (C : Addr) (cl : List (Str × Addr)) (fp : List Addr), PE (X.blk s H scope (compEnvC scope cl C X.env) fp) elt (xE (rc X fa) W0 q.fe)) := by
  unfold dLc at h
  split at h
  · rename_i tg iter ifs a
    split at h
    · rename_i hc
      obtain ⟨hcm, ha, hb, hs⟩ := hc
      subst ha
      cases ht : dTests d (c.blk scope) ifs with
      | none => rw [ht] at h; cases h
      | some t =>
        rw [ht] at h
        cases h
        exact ⟨tg, iter, ifs, ownOf c.N scope, hcm, rfl, rfl, by rw [o.hN, o.sc]; exact blkOk_by hb, hs, q_it S o, fun s H C cl fp => S.g (o.blk hcm) _ _, fun s H C cl fp => q_tests S (o.blk hcm) ht, fun s H C cl fp => S.e (o.blk hcm) _⟩
    · cases h
  · cases h
theorem vs_sub {own : List (Str × Nat)} {g : Comprehension} {gs : List Comprehension} : ∀ i ∈ vsOf own gs, i ∈ vsOf own (g :: gs) := fun i hi => by
  obtain ⟨q, hq, rfl⟩ := List.mem_map.mp hi
  obtain ⟨h1, h2⟩ := List.mem_filter.mp hq
  refine List.mem_map.mpr ⟨q, List.mem_filter.mpr ⟨h1, ?_⟩, rfl⟩
  rw [decide_eq_true_eq] at h2 ⊢
  rw [List.flatMap_cons]
  exact List.mem_append_right _ h2
theorem vs_own {own : List (Str × Nat)} {gs : List Comprehension} : ∀ i ∈ vsOf own gs, i ∈ own.map (·.2) := fun i hi => by
  obtain ⟨q, hq, rfl⟩ := List.mem_map.mp hi
  exact List.mem_map.mpr ⟨q, (List.mem_filter.mp hq).1, rfl⟩
theorem in_nest {R : RC} {own : List (Str × Nat)} : ∀ (gs : List Comprehension) (r : List LcC) (vs : List Nat), dIn d c own gs = some r → (∀ i ∈ vsOf own gs, i ∈ vs) → gs.length = r.length ∧ (∀ g ∈ gs, g.is_async = 0) ∧ nest vs (clxs R gs r)
  | [], r, vs, h, _ => by cases h; exact ⟨rfl, (fun g hg => nomatch hg), trivial⟩
  | g :: gs, r, vs, h, hv => by
    unfold dIn at h
    split at h
    · rename_i hh
      split at h
      · rename_i t r2 ht hr
        cases h
        obtain ⟨i1, i2, i3⟩ := in_nest (R := R) gs r2 (vsOf own (g :: gs)) hr vs_sub
        exact ⟨congrArg (· + 1) i1, fun x hx => (List.mem_cons.mp hx).elim (fun e => by rw [e]; exact hh.1) (i2 x), hv, i3⟩
      · cases h
    · cases h
theorem q_in (S : Snd d) {own : List (Str × Nat)} (o : CxOk c fa X W0) : ∀ (gs : List Comprehension) (r : List LcC), dIn d c own gs = some r → ∀ q ∈ clxs (rc X fa) gs r, ClOk X q
  | [], r, h => by cases h; exact fun q hq => nomatch hq
  | g :: gs, r, h => by
    unfold dIn at h
    split at h
    · rename_i hh
      split at h
      · rename_i t r2 ht hr
        cases h
        intro q hq
        rcases List.mem_cons.mp hq with rfl | hq
        · exact ⟨q_it S o, S.g o _ _, q_tests S o ht, fun env => set_no hh.2⟩
        · exact q_in S o gs r2 hr q hq
      · cases h
    · cases h
/-- the parts of a comprehension of more clauses -/
theorem q_lcN (S : Snd d) (o : CxOk c fa X W) {elt : Expr} {gs : List Comprehension} {scope : Scope} {f : E D} (h : dLcN d c elt gs scope = some f) : ∃ (g0 : Comprehension) (as : List Comprehension) (c0 : LcC) (r : List LcC) (own : List (Str × Nat)) (fe : E D), c.calm = true ∧ gs = g0 :: as ∧ f = eLcN c0 r fe ∧
    as.length = r.length ∧ g0.is_async = 0 ∧ (∀ x ∈ as, x.is_async = 0) ∧ LcOk X elt (clx (rc X fa) W g0 c0) (clxs (rc X fa) as r) scope own (xE (rc X fa) W0 fe) := by
  unfold dLcN at h
  split at h
  · rename_i g0 g1 gs
    split at h
    · rename_i hh
      obtain ⟨hcm, h0, hb, hs⟩ := hh
      split at h
      · rename_i t r ht hr
        cases h
        obtain ⟨i1, i2, i3⟩ := in_nest (R := rc X fa) (g1 :: gs) r ((ownOf c.N scope).map (·.2)) hr vs_own
        exact ⟨g0, g1 :: gs, _, r, ownOf c.N scope, _, hcm, rfl, rfl, i1, h0, i2, ⟨o.calm hcm, by rw [o.hN]; exact o.nd, q_it S o, by rw [o.hN, o.sc]; exact blkOk_by hb, rfl, i3, set_no hs, fun s H C cl fp =>
          ⟨S.g (o.blk hcm) _ _, q_tests S (o.blk hcm) ht, S.e (o.blk hcm) _, q_in S (o.blk hcm) (g1 :: gs) r hr⟩⟩⟩
      · cases h
    · cases h
  · cases h
theorem q_e (S : Snd d) (o : CxOk c fa X W) (e : Expr) : PE X e (xE (rc X fa) W (stepE d c e)) := by
  unfold stepE
  split
  · exact f_dct
  · exact f_dct1
  · exact f_dctN o.hu (S.e o _) (S.e o _)
  · exact q_name o
  · exact q_cst
  · rename_i a op b pos
    cases h : binD op with
    | none => exact b_e
    | some g => exact f_op (op_binD h) (S.e o a) (S.e o b)
  · rename_i op a pos
    cases op with
    | USub => exact f_un un_negD (S.e o a)
    | Not => exact f_not (S.e o a)
    | _ => exact b_e
  · exact and1_e (S.e o _)
  · rename_i op a b es pos
    cases op with
    | And => exact f_and (S.e o _) (S.e o _)
    | Or => exact f_or (S.e o _) (S.e o _)
  · rename_i a op b pos
    split
    · rename_i h; exact f_cmp (op_cmpX o.hu op) (S.e o a) (S.e o b) h
    · exact b_e
  · rename_i a op op' b e pos
    split
    · rename_i h; exact f_chain (op_cmpX o.hu op) (op_cmpX o.hu op') (S.e o a) (S.e o b) (S.e o e) h
    · exact b_e
  · exact f_ifE (S.t o _) (S.e o _) (S.e o _)
  · split
    · rename_i h; exact f_tup (q_all S o h)
    · exact b_e
  · split
    · rename_i h; exact f_lst (q_all S o h)
    · exact b_e
  · exact q_sub S o
  · exact q_callN S o
  · exact q_meth S o
  · rename_i b f pos
    split
    · rename_i hh
      obtain ⟨hcm, hb, hfl⟩ := hh
      obtain ⟨X0, a, oe, i, dd, pn, rfl, hex, hi, hz, hf⟩ := o.sui hcm
      obtain ⟨T, no⟩ := o.fld i hi
      have hfa : fa = fa.withX (some (a, i, dd)) := by
        obtain ⟨f1, f2, f3⟩ := fa
        have e : f3 = some (a, i, dd) := hex
        subst e; rfl
      have he := S.e o b
      rw [hfa] at he ⊢
      exact f_xf (fa := fa) (X := X0) T (no f hfl) hz hf he (base_no hb)
    · unfold dAtr
      split
      · rename_i hh
        obtain ⟨hcm, hnc⟩ := hh
        cases hl : c.gl.lookup (dotN f) with
        | none =>
          show PE X _ (xE (rc X fa) W (if f ∈ flds then eXvf c.cl f (d.e c b) else eBad))
          by_cases hf : f ∈ flds
          · rw [if_pos hf]
            exact f_xvf (fun i hi => ⟨(o.fld i hi).1, (o.fld i hi).2 f hf⟩) (S.e o b) (base_no hnc)
          · rw [if_neg hf]; exact b_e
        | some g =>
          obtain ⟨dd, hr, hq⟩ := o.rm
          have hq := hq _ _ hl
          cases g with
          | atr k g =>
            obtain ⟨hC, no⟩ := hq hcm
            show PE X _ (xE (rc X fa) W (if g = f then eAtr k f (d.e c b) else eBad))
            by_cases hg : g = f
            · rw [if_pos hg]; subst hg
              exact f_atr hC no (S.e o b) (base_no hnc)
            · rw [if_neg hg]; exact b_e
          | _ => exact b_e
      · exact b_e
  · rename_i elt gs scope pos
    unfold dLcE
    cases h : dLc d c elt gs scope with
    | none =>
      cases h2 : dLcN d c elt gs scope with
      | none => exact b_e
      | some f =>
        obtain ⟨g0, as, c0, r, own, fe, hcm, rfl, rfl, i1, i2, i3, L⟩ := q_lcN S o h2
        exact f_lcN i1 i2 i3 L
    | some q =>
      obtain ⟨tg, iter, ifs, own, hcm, rfl, hv, ok, hs, hi, hg, ht, he⟩ := q_lc S o h
      rw [hv] at hg
      have := f_lc (pos := pos) (o.calm hcm) (by rw [o.hN]; exact o.nd) hi ok hg ht he (set_no hs)
      rw [← hv] at this
      exact this
  · exact b_e
theorem q_w (S : Snd d) (o : CxOk c fa X W) (e : Expr) : PW X e (xT (rc X fa) W (stepW d c e)) := by
  unfold stepW
  split
  · rename_i op a pos
    cases op with
    | And => exact f_and1 (S.t o a)
    | Or => exact f_or1 (S.t o a)
  · rename_i op a b es pos
    cases op with
    | And => exact f_andT (S.t o a) (S.w o _)
    | Or => exact f_orT (S.t o a) (S.w o _)
  · exact b_w
theorem q_t (S : Snd d) (o : CxOk c fa X W) (e : Expr) : PT X e (xT (rc X fa) W (stepT d c e)) := by
  unfold stepT
  split
  · exact f_notT (S.t o _)
  · exact (q_w S o _).pt
  · exact f_ifT (S.t o _) (S.t o _) (S.t o _)
  · rename_i a op b pos
    split
    · rename_i h; exact f_cmpT (op_cmpX o.hu op) (S.e o a) (S.e o b) h
    · exact b_t
  · rename_i a op op' b e pos
    split
    · rename_i h; exact f_chainT (op_cmpX o.hu op) (op_cmpX o.hu op') (S.e o a) (S.e o b) (S.e o e) h
    · exact b_t
  · split
    · rename_i h; exact f_truth (S.e o _) (truth_form h)
    · exact b_t
theorem q_gs (S : Snd d) (o : CxOk c fa X W) {vs : List Nat} : ∀ {es : List Expr}, noStars es = true → PGs X es (xGs (rc X fa) W vs (es.map (d.g vs c)))
  | [], _ => f_gnil
  | e :: es, h => f_gcons (S.g o.w0 vs e) (q_gs S o (band h).2) (by rw [asg_cons (band h).1]; rfl)
theorem q_g (S : Snd d) (o : CxOk c fa X W) (vs : List Nat) (e : Expr) : PG X e (xG (rc X fa) W vs (stepG d c vs e)) := by
  unfold stepG
  split
  · rename_i x pos
    cases hs : slot c.N x with
    | none => exact b_g
    | some i =>
      show PG X _ (xG (rc X fa) W vs (if i ∈ vs ∧ locOk c x = true then gNam i else gBad))
      split
      · rename_i h
        obtain ⟨h1, h2⟩ := h
        unfold locOk at h2
        split at h2
        · rename_i e
          rw [← o.sc] at e
          exact f_gnam (by rw [o.hN]; exact o.nd) (by rw [o.hN]; exact slot_ok hs) (.inl e) (.inr e) h1
        · rename_i e
          rw [← o.sc] at e
          exact f_gnam (by rw [o.hN]; exact o.nd) (by rw [o.hN]; exact slot_ok hs) (.inr e) (.inl (by rw [o.fn]; exact h2)) h1
        · cases h2
      · exact b_g
  · split
    · rename_i h
      obtain ⟨hcm, h⟩ := h
      obtain ⟨l1, l2⟩ := asg_len (env := X.env) h
      exact f_gtup (o.calm hcm) (q_gs S o h) (by simp) l1 l2
    · exact b_g
  · split
    · rename_i h; exact f_gsub o.hu (S.e o _) (S.e o _) h
    · exact b_g
  · exact b_g
end
end Jm

set_option Elab.async false
set_option linter.all false
set_option maxRecDepth 100000
set_option maxHeartbeats 4000000
/-! Jm, part R: statements; a def keeps what its reading says; the table of defs. -/
noncomputable section
namespace Jm
open PySem PySem.Spec PyProof.Rows L2
section
variable {fa : Gl0} {d : Dn} {c : Ct} {X : Cx} {W : WX}
theorem q_ss (S : Snd d) (o : CxOk c fa X W) (hp : StOk c X) : ∀ sts : List Stmt, PSs X sts (xS (rc X fa) W (dss d c sts))
  | [] => f_snil
  | st :: sts => f_sseq (S.s o hp st) (q_ss S o hp sts)
theorem swp_ok {sc : Scope} {ts vs : List Expr} {env : Env} {k k2 : Nat} {p p2 : Pos} {r : Option (List Str)} (hsc : env.scope = sc) (hk : sc.kind = .function) (h : swp sc ts vs = some r) : swappedStores [.Tuple ts k p] (.Tuple vs k2 p2) env = pure r := by
  subst hsc
  have hb : env.blockKind = .function := by unfold Env.blockKind; rw [hk]; rfl
  unfold swappedStores
  unfold swp at h
  rw [hk] at h
  simp only [hb]
  split at h
  · rename_i h1
    cases h
    rw [if_pos (by simpa using h1)]
  rename_i h1
  rw [if_neg (by simpa using h1)]
  split at h
  · rename_i h2
    cases h
    exact if_pos h2
  rename_i h2
  refine (if_neg h2).trans ?_
  dsimp only at h ⊢
  split at h
  · rename_i h3
    cases h
    exact if_pos h3
  rename_i h3
  refine (if_neg h3).trans ?_
  split at h
  · rename_i h4
    cases h
    exact if_pos h4
  rename_i h4
  refine (if_neg h4).trans ?_
  split at h
  · cases h
  rename_i h5
  refine (if_neg h5).trans ?_
  cases h
  rfl
theorem sole {t v : Expr} {l : Nat} {env : Env} : swapsWithSole [t] v l env = swapsWith v (some t) l env := by first | rfl | simp [swapsWithSole]
theorem q_par (S : Snd d) (o : CxOk c fa X W) {ts vs : List Expr} {k k2 : Nat} {p p2 pos : Pos} {ns : List Str} (h : swappedStores [.Tuple ts k p] (.Tuple vs k2 p2) X.env = pure (some ns)) : PS X (.Assign [.Tuple ts k p] (.Tuple vs k2 p2) pos) (xS (rc X fa) W (dPar d c ts vs ns)) := by
  unfold dPar
  split
  · rename_i x px y py a b
    split
    · rename_i i j hi hj
      split
      · rename_i hh
        obtain ⟨hcm, g1, g2, g3, g4, g5, g6⟩ := hh
        rw [← o.sc] at g5 g6
        rw [g4] at h
        exact f_spar (o.calm hcm) (by rw [o.hN]; exact o.nd) (by rw [o.hN]; exact slot_ok hi) (by rw [o.hN]; exact slot_ok hj) g1 g5 g6 (S.e o a) (S.e o b) (star_cons g2) (star_cons g3) h
      · exact b_s
    · exact b_s
  · rename_i x px y py z pz a b e
    split
    · rename_i i j l hi hj hl
      split
      · rename_i hh
        obtain ⟨hcm, ⟨g1, g2, g3⟩, ⟨n1, n2, n3⟩, g4, g5, g6, g7⟩ := hh
        rw [← o.sc] at g5 g6 g7
        rw [g4] at h
        exact f_spar3 (o.calm hcm) (by rw [o.hN]; exact o.nd) (by rw [o.hN]; exact slot_ok hi) (by rw [o.hN]; exact slot_ok hj) (by rw [o.hN]; exact slot_ok hl) g1 g2 g3 g5 g6 g7 (S.e o a) (S.e o b) (S.e o e) (star_cons n1) (star_cons n2) (star_cons n3) h (sole.trans (sw_no rfl))
      · exact b_s
    · exact b_s
  · exact b_s
theorem sws_no {tg e : Expr} {env : Env} (h : isTup tg = false ∨ isTup e = false) (hl : ∀ es p, tg ≠ .List es p) : swappedStores [tg] e env = pure none := by
  cases tg with
  | Tuple ts k p =>
    cases e with
    | Tuple vs k2 p2 => rcases h with h | h <;> cases h
    | _ => rfl
  | List es p => exact absurd rfl (hl es p)
  | _ => rfl
theorem sw_cell {elt : Expr} {gs : List Comprehension} {scope : Scope} {p py : Pos} {y : Str} {l : Nat} {env : Env} (h : env.scope.names.lookup y = some .cell) : swapsWith (.ListComp elt gs scope p) (some (.Name y py)) l env = pure false := by
  have k : env.kindOf y = some .cell := h
  unfold swapsWith
  simp only [k]
  show pure (env.blockKind == .function && (some NameKind.cell == some NameKind.local) && _ && _) = pure false
  rw [show (some NameKind.cell == some NameKind.local) = false from rfl, Bool.and_false, Bool.false_and, Bool.false_and]
theorem sw_tup {tg e : Expr} {l : Nat} {env : Env} (h : isTup tg = true) : swapsWith e (some tg) l env = pure false := by
  cases tg with
  | Tuple ts k p => cases e <;> rfl
  | _ => cases h
theorem q_asg (S : Snd d) (o : CxOk c fa X W) {tg e : Expr} {pos : Pos} : PS X (.Assign [tg] e pos) (xS (rc X fa) W (dAsg d c tg e)) := by
  unfold dAsg
  split
  · rename_i ts k p vs k2 p2
    split
    · rename_i hk
      split
      · rename_i h
        have hw := swp_ok (k := k) (k2 := k2) (p := p) (p2 := p2) o.sc hk h
        exact f_sasg (S.e o _) (S.g o _ _) (sole.trans (sw_no rfl)) hw rfl
      · rename_i ns h
        exact q_par S o (swp_ok o.sc hk h)
      · exact b_s
    · exact b_s
  · rename_i y py elt gs scope p
    split
    · rename_i hh
      obtain ⟨g1, g2, g3, g4⟩ := hh
      split
      · rename_i i f hi hf
        unfold dLcE at hf
        cases hq : dLc d c elt gs scope with
        | none =>
          rw [hq] at hf
          obtain ⟨g0, as, c0, r, own, fe, hcm, rfl, rfl, i1, i2, i3, L⟩ := q_lcN S o hf
          have g2' := g2
          rw [← o.sc] at g1 g2
          exact f_setlcN i1 i2 i3 L (by rw [o.hN]; exact slot_ok hi) g2 (sw_true g1 g2 g3 g4)
        | some q =>
        rw [hq] at hf
        cases hf
        obtain ⟨tg, iter, ifs, own, hcm, rfl, hv, ok, hs, hit, hg, ht, he⟩ := q_lc S o hq
        rw [hv] at hg
        have g2' := g2
        rw [← o.sc] at g1 g2
        have := f_setlc (spos := pos) (py := py) (pos := p) (o.calm hcm) (by rw [o.hN]; exact o.nd) (by rw [o.hN]; exact slot_ok hi) g2 (sw_true g1 g2 g3 g4) hit ok hg ht he (set_no hs)
        rw [← hv] at this
        exact this
      · exact b_s
    · split
      · rename_i hcell
        exact f_sasg (S.e o _) (S.g o _ _) (sole.trans (sw_cell (by rw [o.sc]; exact hcell))) rfl rfl
      · exact b_s
  · exact b_s
  · rename_i n1 n2 n3
    split
    · rename_i hh
      refine f_sasg (S.e o _) (S.g o _ _) (sole.trans (hh.2.elim sw_no sw_tup)) (sws_no ?_ fun es p z => n1 _ _ z) (by rw [asg_cons hh.1]; rfl)
      cases h1 : isTup tg with
      | false => exact .inl rfl
      | true =>
        cases h2 : isTup e with
        | false => exact .inr rfl
        | true =>
          exfalso
          cases tg with
          | Tuple ts k p =>
            cases e with
            | Tuple vs k2 p2 => exact n2 _ _ _ _ _ _ rfl rfl
            | _ => cases h2
          | _ => cases h1
    · exact b_s
theorem sub_mem {A B : Type} [BEq A] [LawfulBEq A] {x : A} {v : B} : ∀ {l : List (A × B)}, l.lookup x = some v → (x, v) ∈ l
  | (k, u) :: l, h => by
    rw [List.lookup_cons] at h
    cases e : x == k with
    | true =>
      rw [e] at h; cases h
      rw [eq_of_beq e]; exact List.mem_cons_self
    | false => rw [e] at h; exact List.mem_cons_of_mem _ (sub_mem h)
theorem CxOk.suite (o : CxOk c fa X W) {a : Addr} {oe : Obj} {i : Nat} {dd : Option Addr} {pn : List (Addr × Obj)} (h0 : fa.ex = none) (hi : i ∈ c.cl) (hz : Zc (.ref (fa.fa i)) dd oe) (hf : ∃ vs, oe.data = .fields vs) :
    CxOk { c with calm := false } (fa.withX (some (a, i, dd))) (X.suite a ((a, oe) :: pn)) W0 where
  hN := o.hN
  sc := o.sc
  fn := o.fn
  nd := o.nd
  calm := fun z => nomatch z
  tk := takes0
  hu := o.hu
  rm := by
    obtain ⟨d, _, hq⟩ := o.rm
    refine ⟨d, (fun z => nomatch z), fun x g hl => ?_⟩
    have q := hq x g hl
    cases g with
    | fn j ps kf => exact ⟨q.1, (fun z => nomatch z)⟩
    | cst e =>
      obtain ⟨u, v, h1, h2, h3⟩ := q
      exact ⟨u, v, h1, h2, fun p H => RV.up (R := rc X fa) h0 (h3 p H)⟩
    | cls j => exact q
    | free => exact q
    | mk i k f => exact ⟨q.1, (fun z => nomatch z)⟩
    | mth i k m => exact (fun z => nomatch z)
    | atr k f => exact (fun z => nomatch z)
  cls := o.cls
  fld := o.fld
  sub := o.sub
  clx := o.clx
  x0 := o.x0
  exn := fun z => nomatch z
  sui := fun _ => ⟨X, a, oe, i, dd, pn, rfl, rfl, hi, hz, hf⟩
theorem q_cls (S : Snd d) (o : CxOk c fa X W) (hcm : c.calm = true) : ∀ {hs : List ExceptHandler} {l : List HC}, dCls d c hs = some l → HOk X fa hs l
  | [], l, h => by cases h; exact .nil
  | hd :: hs, l, h => by
    have h0 := o.exn hcm
    have cmOk : ∀ {j i : Nat} {k : Bool}, (if i ∈ c.cl then c.sub.lookup (i, j) else none) = some k → i ∈ c.cl ∧ PySem.W.exmOne X.K (.ref (fa.fa i)) (.ref (fa.fa j)) = some k := fun {j i k} e => by
      split at e
      · rename_i hi
        exact ⟨hi, o.sub ((i, j), k) (sub_mem e)⟩
      · cases e
    have suite : ∀ (sts : List Stmt) (a : Addr) (oe : Obj) (i : Nat) (dd : Option Addr) (pn : List (Addr × Obj)), i ∈ c.cl → Zc (.ref (fa.fa i)) dd oe → (∃ vs, oe.data = .fields vs) → PSs (X.suite a ((a, oe) :: pn)) sts (xS (rc X (fa.withX (some (a, i, dd)))) W0 (dss d { c with calm := false } sts)) :=
      fun sts a oe i dd pn hi hz hf => q_ss S (o.suite h0 hi hz hf) ⟨(fun z => nomatch z), (fun z => nomatch z), (fun z => nomatch z)⟩ sts
    unfold dCls at h
    split at h
    · rename_i heq; cases heq
    · rename_i x px nm b su q hs2 heq
      cases heq
      split at h
      · rename_i j l2 hg hl2
        obtain ⟨g1, g2, g3, g4⟩ := glob_ok o hg
        obtain ⟨_, _, hq⟩ := o.rm
        have hnm : Names X x (.ref (fa.fa j)) := ⟨g1, g2, .inl (hq _ _ g4)⟩
        cases nm with
        | none =>
          cases h
          exact .cons hnm (fun i k e => (cmOk e).2) trivial (fun a oe i dd pn e hz hf => suite _ a oe i dd pn (cmOk e).1 hz hf) (q_cls S o hcm hl2)
        | some n =>
          dsimp only at h
          split at h
          · rename_i hloc
            cases hs3 : slot c.N n with
            | none => rw [hs3] at h; cases h
            | some k =>
              rw [hs3] at h
              cases h
              refine .cons hnm (fun i k e => (cmOk e).2) ⟨by rw [o.hN]; exact slot_ok hs3, ?_⟩ (fun a oe i dd pn e hz hf => suite _ a oe i dd pn (cmOk e).1 hz hf) (q_cls S o hcm hl2)
              show X.env.scope.names.lookup n = _
              rw [o.sc]; exact hloc
          · cases h
      · cases h
    · cases h
theorem q_s (S : Snd d) (o : CxOk c fa X W) (hp : StOk c X) (st : Stmt) : PS X st (xS (rc X fa) W (stepS d c st)) := by
  unfold stepS
  split
  · exact f_sdoc
  · split
    · rename_i h; exact f_sexp (S.e o _) (sw_no h)
    · exact b_s
  · exact q_asg S o
  · exact f_sif (S.t o _) (q_ss S o hp _) (q_ss S o hp _)
  · split
    · rename_i h; exact f_for (hp.ps h.1) (o.calm h.1) (q_it S o) (S.g o _ _) (q_ss S o hp _) (set_no h.2)
    · exact b_s
  · split
    · rename_i h; exact f_while (hp.ps h) (S.t o _) (q_ss S o hp _)
    · exact b_s
  · exact f_sret (S.e o _)
  · exact f_sretn
  · exact f_spass
  · exact f_sbrk
  · exact f_scnt
  · rename_i x px e pos pos2
    split
    · rename_i i hg
      split
      · rename_i hh
        obtain ⟨hcm, h1, h2, h3⟩ := hh
        obtain ⟨g1, g2, g3, g4⟩ := glob_ok o hg
        obtain ⟨dd, hr, hq⟩ := o.rm
        exact f_raise rfl (o.calm hcm) o.tk ((hr hcm).mono (by omega)) (o.cls i h3 h2) g1 (hq _ _ g4) (q_all S o (es := [e]) (by simp [noStars, h1])) g2 (star_cons h1)
      · exact b_s
    · exact b_s
  · rename_i x px pos pos2
    split
    · rename_i i hg
      split
      · rename_i hh
        obtain ⟨hcm, h2, h3⟩ := hh
        obtain ⟨g1, g2, g3, g4⟩ := glob_ok o hg
        obtain ⟨dd, hr, hq⟩ := o.rm
        exact f_raise0 (o.calm hcm) o.tk (o.x0 i h3 h2) (o.clx i h3).ox g1 (hq _ _ g4) g2
      · exact b_s
    · exact b_s
  · rename_i body h0 hs pos
    split
    · rename_i hcm
      split
      · rename_i l hl
        refine f_try (hp.st hcm) (hp.fr hcm) (by rw [o.hN]; exact o.nd) o.tk (o.exn hcm) (fun W' pn xe tk ps => ?_) (q_cls S o hcm hl)
        exact q_ss (X := X.tr pn xe) S ⟨o.hN, o.sc, o.fn, o.nd, o.calm, tk, o.hu, o.rm, o.cls, o.fld, o.sub, o.clx, o.x0, o.exn, fun z => by rw [hcm] at z; cases z⟩ ⟨fun _ => ps, hp.st, hp.fr⟩ body
      · exact b_s
    · exact b_s
  · exact b_s
theorem snd_step (S : Snd d) : Snd (step d) := ⟨fun o e => q_e S o e, fun o e => q_t S o e, fun o e => q_w S o e, fun o vs e => q_g S o vs e, fun o hp st => q_s S o hp st⟩
theorem snd_den : ∀ n, Snd (den n)
  | 0 => ⟨fun _ _ => b_e, fun _ _ => b_t, fun _ _ => b_w, fun _ _ _ => b_g, fun _ _ _ => b_s⟩
  | n + 1 => snd_step (snd_den n)
end
/-! ### a def -/
def startD (N : List Str) (ds : List D) : En := ds.map some ++ List.replicate (N.length - ds.length) none
/-- the body's end is the call's end -/
def outD (r : Res Out) : Res D := match r with
  | .ok (.nx _) S => .ok .non S
  | .ok (.rt d) S => .ok d S
  | .ok (.er c fs _) S => .exc c fs S
  | _ => .bad
structure Fd where
  ps : List Str
  N : List Str
  body : List Stmt
  scope : Scope
def FD : Nat := 40
/-- the module's names, its exception classes, which stands under which -/
structure Md where
  gl : List (Str × Gv)
  cl : List Nat
  sub : List ((Nat × Nat) × Bool)
def Fd.ct (f : Fd) (gl : Md) (cf : CF) : Ct := ⟨f.N, f.scope, fun _ => true, gl.gl, gl.cl, gl.sub, true, cf⟩
def Fd.run (f : Fd) (gl : Md) (cf : CF) (ds : List D) : M D := fun S => if ds.length = f.ps.length then outD (dss (den FD) (f.ct gl cf) f.body (startD f.N ds) S) else .bad
/-- the body of an __init__ that stores one field: self, the field, what is stored -/
def inOf : List Stmt → Option (Str × Str × Expr)
  | [.Assign [.Attribute (.Name s _) f _] e _] => some (s, f, e)
  | _ => none
def startI (N : List Str) (ds : List D) : En := none :: (ds.map some ++ List.replicate (N.length - (ds.length + 1)) none)
/-- what such an __init__ stores, if its form is the one that is known -/
def iniC (f : Fd) (fld : Str) : Option Expr := match inOf f.body with
  | some (s, g, e) => if f.ps.head? = some s ∧ g = fld ∧ f.scope.names.lookup s = some .local ∧ (s == ("__debug__" : Str)) = false ∧ (s == ("__classdict__" : Str)) = false ∧ noComp e = true then some e else none
  | none => none
def Fd.runI (f : Fd) (gl : Md) (cf : CF) (fld : Str) (ds : List D) : M D := fun S => match iniC f fld with
  | some e => if ds.length + 1 = f.ps.length then (den FD).e (f.ct gl cf) e (startI f.N ds) S else .bad
  | none => .bad
def scC (N ps : List Str) (sc : Scope) : Bool := decide (sc.kind = .function) && !sc.isCoroutine && !sc.isGenerator && decide N.Nodup && decide (N.take ps.length = ps) && (ps.all fun x => decide (sc.names.lookup x = some .local) || decide (sc.names.lookup x = some .cell)) && (sc.names.all fun y => decide (y.2 ≠ .free))
theorem scope_by {N ps : List Str} {sc : Scope} (h : scC N ps sc = true) : FnScope N ps sc := by
  unfold scC at h
  simp only [Bool.and_eq_true, List.all_eq_true, decide_eq_true_eq, Bool.not_eq_true', Bool.or_eq_true] at h
  obtain ⟨⟨⟨⟨⟨⟨h1, h2⟩, h3⟩, h4⟩, h5⟩, h6⟩, h7⟩ := h
  exact ⟨h1, h2, h3, h4, h5, h6, h7⟩
theorem RE.start {R : RC} {p : List Addr} {H : Hp} {N : List Str} {ds : List D} {vs : List V} (r : RVs R p H ds vs) : RE R p (startD N ds) (L2.start N vs) H := by
  refine ⟨by simp [startD, L2.start, r.length], fun i d e => ?_⟩
  unfold startD at e
  by_cases hi : i < ds.length
  · rw [List.getElem?_append_left (by simpa using hi), List.getElem?_map] at e
    cases e1 : ds[i]? with
    | none => rw [e1] at e; cases e
    | some d' =>
      rw [e1] at e; cases e
      obtain ⟨v, h1, h2⟩ := r.get e1
      refine ⟨v, ?_, h2⟩
      unfold L2.start
      rw [List.getElem?_append_left (by rw [List.length_map, ← r.length]; exact hi), List.getElem?_map, h1]; rfl
  · rw [List.getElem?_append_right (by simpa using hi), List.getElem?_replicate] at e
    split at e <;> cases e
theorem RE.startI {R : RC} {p : List Addr} {H : Hp} {N : List Str} {ds : List D} {u : V} {vs : List V} (r : RVs R p H ds vs) : RE R p (startI N ds) (L2.start N (u :: vs)) H := by
  refine ⟨by simp [Jm.startI, L2.start, r.length], fun i d e => ?_⟩
  cases i with
  | zero => cases e
  | succ i =>
    have e : (ds.map some ++ List.replicate (N.length - (ds.length + 1)) none)[i]? = some (some d) := e
    by_cases hi : i < ds.length
    · rw [List.getElem?_append_left (by simpa using hi), List.getElem?_map] at e
      cases e1 : ds[i]? with
      | none => rw [e1] at e; cases e
      | some d' =>
        rw [e1] at e; cases e
        obtain ⟨v, h1, h2⟩ := r.get e1
        refine ⟨v, ?_, h2⟩
        unfold L2.start
        rw [List.getElem?_append_left (by simp [← r.length]; omega), List.getElem?_map]
        show Option.map some (vs[i]?) = _
        rw [h1]; rfl
    · rw [List.getElem?_append_right (by simpa using hi), List.getElem?_replicate] at e
      split at e <;> cases e
section
variable {P : Program} {w : World} {K : PySem.W.Frag} {mg : Str → Option Value} {base : Heap} {fa : Gl0} {cf : CF} {gl : Md}
/-- what the module says of its names and classes -/
structure MdOk (P : Program) (w : World) (K : PySem.W.Frag) (mg : Str → Option Value) (base : Heap) (fa : Gl0) (gl : Md) : Prop where
  cls : ∀ i ∈ gl.cl, i % 4 ≠ 0 → ClsI P w K mg base (fa.fa i) (fldName i)
  fld : ∀ i ∈ gl.cl, XfC K (fa.fa i) ∧ ∀ f ∈ flds, PySem.W.findIn K (.ref (fa.fa i)) f = some none
  sub : ∀ q ∈ gl.sub, PySem.W.exmOne K (.ref (fa.fa q.1.1)) (.ref (fa.fa q.1.2)) = some q.2
  clx : ∀ i ∈ gl.cl, ErX K (fa.fa i)
  x0 : ∀ i ∈ gl.cl, i % 4 = 0 → PySem.W.excIn K (fa.fa i) He.veBase "ValueError.__new__" = true
  exn : fa.ex = none
theorem fd_ok {x qual : Str} {params : Arguments} {fd : FuncData} {a : Addr} {f : Fd} {d : Nat} (F : FunD K x qual params f.body f.scope [] [] a fd) (hsc : scC f.N f.ps f.scope = true) (hm : MdOk P w K mg base fa gl) (hgl : ∀ x g, gl.gl.lookup x = some g → GvOk P w K mg base fa cf true (d + 2) x g) :
    FnOk P w K mg base (L2.CX P w) (d + 3) a fd f.ps (spF ⟨K, P, w, fa.fa, fa.g, fa.ex⟩ (f.run gl cf)) := by
  have sc := scope_by hsc
  refine F.ok sc (fun vs H Q E ⟨p, S, ds, rs, rv, h⟩ => ?_) (fun cdv A outer s H vs Q E hr ⟨p, S, ds, rs, rv, h⟩ => ?_)
  · unfold Fd.run at h
    split at h
    · rename_i hl; rw [← rv.length, hl]
    · exact h.elim
  · have tk : Takes (cxOf (L2.CX P w) P w K mg base f.N qual f.scope a cdv A outer s H E) (fun cls d _ H => E cls d H) := takes_of rfl rfl rfl rfl
    have o : CxOk (f.ct gl cf) fa (cxOf (L2.CX P w) P w K mg base f.N qual f.scope a cdv A outer s H E) (fun cls d _ H => E cls d H) := ⟨rfl, rfl, rfl, sc.nd, fun _ => rfl, tk, (show (A.deeper (envOfC qual f.scope s.heap.objs.size a cdv)).units + 65 < cLine by have := hr.un; omega), ⟨d, fun _ => hr, hgl⟩, hm.cls, hm.fld, hm.sub, hm.clx, hm.x0, fun _ => hm.exn, fun z => nomatch z⟩
    refine ⟨_, q_ss (snd_den FD) o ⟨fun _ => passes_of rfl, fun _ => rfl, fun _ => rfl⟩ f.body, p, startD f.N ds, S, rs, RE.start rv, ?_⟩
    unfold Fd.run at h
    split at h
    · generalize dss (den FD) (f.ct gl cf) f.body (startD f.N ds) S = r at h
      cases r with
      | bad => exact h.elim
      | exc c fs S' => exact h.elim
      | ok out S' =>
        cases out with
        | nx n => exact fun p' H' hp t rs' s' _ => h p' H' hp t rs' .non .non
        | rt v => exact fun p' H' hp t rs' v' rv' => h p' H' hp t rs' v' rv'
        | bk n => exact h.elim
        | ct n => exact h.elim
        | er c fs n => exact fun p' H' hp t rs' s' cls dd _ x => h p' H' cls dd hp t rs' x
    · exact h.elim
theorem fd_okI {x qual fld : Str} {c : Nat} {params : Arguments} {fd : FuncData} {a : Addr} {f : Fd} {d : Nat} (F : FunD K x qual params f.body f.scope [] [] a fd) (hsc : scC f.N f.ps f.scope = true) (hm : MdOk P w K mg base fa gl) (hgl : ∀ x g, gl.gl.lookup x = some g → GvOk P w K mg base fa cf true (d + 2) x g)
    (hC : Cls K (fa.fa c)) (hno : NoAttr K (fa.fa c) fld) :
    FnOk P w K mg base (L2.CX P w) (d + 3) a fd f.ps (spI ⟨K, P, w, fa.fa, fa.g, fa.ex⟩ c fld (f.runI gl cf fld)) := by
  have sc := scope_by hsc
  refine F.ok sc (fun vs H Q E ⟨p, S, ds, a, dx, us, e, hh, nh, rs, rv, h⟩ => ?_) (fun cdv A outer s H vs Q E hr ⟨p, S, ds, a1, dx, us, ev, hh, nh, rs, rv, h⟩ => ?_)
  · unfold Fd.runI at h
    split at h
    · split at h
      · rename_i hl; rw [e, List.length_cons, ← rv.length, hl]
      · exact h.elim
    · exact h.elim
  · subst ev
    have tk : Takes (cxOf (L2.CX P w) P w K mg base f.N qual f.scope a cdv A outer s H E) (fun cls d _ H => E cls d H) := takes_of rfl rfl rfl rfl
    have o : CxOk (f.ct gl cf) fa (cxOf (L2.CX P w) P w K mg base f.N qual f.scope a cdv A outer s H E) (fun cls d _ H => E cls d H) := ⟨rfl, rfl, rfl, sc.nd, fun _ => rfl, tk, (show (A.deeper (envOfC qual f.scope s.heap.objs.size a cdv)).units + 65 < cLine by have := hr.un; omega), ⟨d, fun _ => hr, hgl⟩, hm.cls, hm.fld, hm.sub, hm.clx, hm.x0, fun _ => hm.exn, fun z => nomatch z⟩
    unfold Fd.runI at h
    split at h
    · rename_i e hin
      split at h
      · rename_i h2
        have hb : ∃ s0 p1 p2 p3, f.body = [.Assign [.Attribute (.Name s0 p1) fld p2] e p3] ∧ f.ps.head? = some s0 ∧ f.scope.names.lookup s0 = some .local ∧ (s0 == ("__debug__" : Str)) = false ∧ (s0 == ("__classdict__" : Str)) = false ∧ noComp e = true := by
          unfold iniC at hin
          split at hin
          · rename_i s0 g e0 h9
            split at hin
            · rename_i hc
              obtain ⟨c1, rfl, c2, c3, c4, c5⟩ := hc
              cases hin
              unfold inOf at h9
              split at h9
              · cases h9; exact ⟨_, _, _, _, by assumption, c1, c2, c3, c4, c5⟩
              · cases h9
            · cases hin
          · cases hin
        obtain ⟨s0, p1, p2, p3, hb, h1, h3, h4, h5, h6⟩ := hb
        rw [hb]
        have hN : f.N[0]? = some s0 := by
          have q := congrArg (fun l : List Str => l[0]?) sc.pre
          cases hp : f.ps with
          | nil => rw [hp] at h1; cases h1
          | cons x l =>
            rw [hp] at h1 q
            cases h1
            cases hn : f.N with
            | nil => rw [hn] at q; simp at q
            | cons y l2 => rw [hn] at q; simpa using q
        refine ⟨_, pss_one (ps_fld (pe_var hN (.inl h3) h4 h5) ((snd_den FD).e o e) (sw_no h6)), p, startI f.N ds, S, rs, RE.startI rv, aft_nox (W1 := fun _ _ _ => False) (Aft.imp h (fun d p' S' H' hp' t' rs' h' v rv' => ?_) fun _ _ _ z => z)⟩
        refine ⟨.ref a1, rfl, a1, fa.fa c, dx, [], rfl, (t' a1 _ nh hh).2, hC, hno, by decide, h' v rv'⟩
      · exact h.elim
    · exact h.elim
end
end Jm

set_option Elab.async false
set_option linter.all false
set_option maxRecDepth 100000
set_option maxHeartbeats 4000000
/-! Jm, part V: what the head tells of the exception classes. -/
noncomputable section
namespace Jm
open PySem PySem.Spec PyProof.Rows L2
def oexB (K : PySem.W.Frag) (C : Addr) : Bool := (match K.lookup C with
  | some ⟨.type "type", _, .cls cd, sl⟩ => (match cd.mro, sl.toList with
    | .ref C2 :: bm, [_, _, _, _, some (.builtin n), _] => C2 == C && (n == "ValueError.__new__" && (!cd.hasDel && (cd.hasDict && PySem.HandSPX.refsVE bm)))
    | _, _ => false)
  | _ => false) && (decide (PySem.W.findIn K (.ref C) "__setattr__" = some (some (.builtin "object.__setattr__"))) && (decide (PySem.W.subIn K (.ref C) (.type "BaseException") = some true) && (decide (PySem.W.typeIn K (.ref C) = some (.type "type")) && PySem.W.keepIn K (.ref C))))
theorem oexB_ok {K : PySem.W.Frag} {C : Addr} (h : oexB K C = true) : OexC K C := by
  unfold oexB at h
  obtain ⟨h1, h⟩ := band h
  obtain ⟨h2, h⟩ := band h
  obtain ⟨h3, h⟩ := band h
  obtain ⟨h4, h5⟩ := band h
  refine ⟨?_, of_decide_eq_true h2, of_decide_eq_true h3, of_decide_eq_true h4, h5⟩
  split at h1
  · rename_i dd cd sl ho
    split at h1
    · rename_i C2 bm k0 k1 k2 k3 n k5 hm hs
      simp only [Bool.and_eq_true, beq_iff_eq, Bool.not_eq_true'] at h1
      obtain ⟨rfl, rfl, g1, g2, g3⟩ := h1
      obtain ⟨nm, bs, mro, ns, qn, hd, sn, sub, ab, col, del⟩ := cd
      dsimp only at hm g1 g2
      subst hm g1 g2
      have hsl : sl = #[k0, k1, k2, k3, some (.builtin "ValueError.__new__"), k5] := by
        obtain ⟨l⟩ := sl
        simp only at hs
        rw [hs]
      subst hsl
      exact ⟨nm, qn, ns, bs, bm, sn, sub, ab, col, dd, k0, k1, k2, k3, k5, ho, g3⟩
    · cases h1
  · cases h1
/-- the body of such an __init__: self.f = g -/
def isIni (f g : Str) : List Stmt → Bool
  | [.Assign [.Attribute (.Name s _) f2 _] (.Name g2 _) _] => decide (s = "self" ∧ f2 = f ∧ g2 = g)
  | _ => false
theorem init_ok {P : Program} {w : World} {K : PySem.W.Frag} {mg : Str → Option Value} {base : Heap} {C fI : Addr} {fd : FuncData} {qual f g : Str} {params : Arguments} {body : List Stmt} {scope : Scope} (F : FunD K "__init__" qual params body scope [] [] fI fd) (hb : isIni f g body = true)
    (hsc : scC ["self", g] ["self", g] scope = true) (hv : scope.names.lookup g = some .local ∧ scope.names.lookup ("self" : Str) = some .local ∧ (g == ("__debug__" : Str)) = false ∧ (g == ("__classdict__" : Str)) = false) (hC : OexC K C) (hno : PySem.W.findIn K (.ref C) f = some none) :
    FnOk P w K mg base (L2.CX P w) 1 fI fd ["self", g] (spInit C f) := by
  refine F.ok (k := 0) (scope_by hsc) (fun vs H Q E ⟨a, y, e, _⟩ => by rw [e]; rfl) (fun cdv A outer s H vs Q E hr ⟨a, y, e, h1, h2⟩ => ?_)
  subst e
  unfold isIni at hb
  split at hb
  · rename_i s1 p1 f2 p2 g2 p3 pos
    obtain ⟨rfl, rfl, rfl⟩ := of_decide_eq_true hb
    refine ⟨_, pss_one (ps_ost (to := tVar 0) (te := tVar 1) (pe_var rfl (.inl hv.2.1)) (pe_var rfl (.inl hv.1) hv.2.2.1 hv.2.2.2) rfl), y, rfl, .ref a, rfl, a, C, rfl, hC, hno, .inl ⟨h1, fun dx n ne => ?_⟩⟩
    exact h2 dx n ne
  · cases hb
end Jm

set_option Elab.async false
set_option linter.all false
set_option maxRecDepth 100000
set_option maxHeartbeats 4000000
/-! Jm, part Sa: a call that is given and hands back no place of the store may be read in a store of its own. -/
noncomputable section
namespace Jm
open PySem PySem.Spec PyProof.Rows L2
mutual
def frD : D → Bool
  | .tup xs => frL xs
  | .loc _ => false
  | .scr _ => false
  | .sett _ => false
  | .ins _ _ _ => false
  | .exv _ _ => false
  | .exc _ _ => false
  | _ => true
def frL : List D → Bool
  | [] => true
  | d :: ds => frD d && frL ds
end
/-- what is left of the own store: nothing, or the one list that is handed back -/
def keep (d : D) (T S : Sto) : Res D := if frD d = true then .ok d S else match d with
  | .loc l => match T[l]? with
    | some (.lst xs) => if frL xs = true then .ok (.loc S.length) (S ++ [.lst xs]) else .bad
    | _ => .bad
  | _ => .bad
def graft (f : List D → M D) : List D → M D := fun ds S => if frL ds = true then match f ds [] with
    | .ok d T => keep d T S
    | _ => .bad
  else f ds S
/-- lists and dicts only -/
def Objs (H : Hp) (p : List Addr) : Prop := ∀ a ∈ p, (∃ vs, H a = some (.lst vs)) ∨ (∃ us, H a = some (.dK us)) ∨ (∃ φ, H a = some (.ext φ)) ∨ (∃ o us, H a = some (.frz o (.dK us))) ∨ ∃ o φ, H a = some (.frz o (.ext φ))
theorem RS.objs {R : RC} {p : List Addr} {S : Sto} {H : Hp} (r : RS R p S H) : Objs H p := fun a h => by
  obtain ⟨l, hl, e⟩ := List.mem_iff_getElem.mp h
  have hs : l < S.length := by rw [← r.len]; exact hl
  have ro := r.at_ l S[l] a (by simp [hs]) (by simp [hl, e])
  cases eo : S[l] with
  | lst ds => rw [eo] at ro; obtain ⟨vs, h1, _⟩ := ro; exact .inl ⟨vs, h1⟩
  | dct kvs => rw [eo] at ro; obtain ⟨vs, h1, _⟩ := ro; exact .inr (.inl ⟨vs, h1⟩)
  | dcN kvs => rw [eo] at ro; obtain ⟨vs, h1, _⟩ := ro; exact .inr (.inr (.inl ⟨_, h1⟩))
  | dctZ kvs => rw [eo] at ro; obtain ⟨o, vs, h1, _⟩ := ro; exact .inr (.inr (.inr (.inl ⟨_, _, h1⟩)))
  | dcNZ kvs => rw [eo] at ro; obtain ⟨o, vs, h1, _⟩ := ro; exact .inr (.inr (.inr (.inr ⟨_, _, h1⟩)))
theorem objs_out {H : Hp} {p : List Addr} (o : Objs H p) {a : Addr} {u : HO} (e : H a = some u) (n1 : ∀ vs, u ≠ .lst vs) (n2 : ∀ us, u ≠ .dK us) (n3 : ∀ φ, u ≠ .ext φ) (n4 : ∀ o us, u ≠ .frz o (.dK us)) (n5 : ∀ o φ, u ≠ .frz o (.ext φ)) : a ∉ p := fun h => by
  rcases o a h with ⟨vs, z⟩ | ⟨us, z⟩ | ⟨φ, z⟩ | ⟨o, us, z⟩ | ⟨o, φ, z⟩
  · rw [e] at z; cases z; exact n1 _ rfl
  · rw [e] at z; cases z; exact n2 _ rfl
  · rw [e] at z; cases z; exact n3 _ rfl
  · rw [e] at z; cases z; exact n4 _ _ rfl
  · rw [e] at z; cases z; exact n5 _ _ rfl
mutual
theorem RV.free {R : RC} {p p' : List Addr} {H : Hp} (o : Objs H p') : ∀ {d : D} {v : V}, frD d = true → RV R p H d v → RV R p' H d v
  | _, _, _, .non => .non
  | _, _, _, .bl b => .bl b
  | _, _, _, .int i => .int i
  | _, _, _, .str x => .str x
  | _, _, _, .ty n => .ty n
  | _, _, f, .tup s r => by
    refine .tup ?_ (RVs.free o f r)
    rcases s with ⟨n, h | ⟨ob, h⟩⟩ | h
    · exact .inl ⟨objs_out o h (fun _ => (nomatch ·)) (fun _ => (nomatch ·)) (fun _ => (nomatch ·)) (fun _ _ => (nomatch ·)) (fun _ _ => (nomatch ·)), .inl h⟩
    · exact .inl ⟨objs_out o h (fun _ => (nomatch ·)) (fun _ => (nomatch ·)) (fun _ => (nomatch ·)) (fun _ _ => (nomatch ·)) (fun _ _ => (nomatch ·)), .inr ⟨ob, h⟩⟩
    · exact .inr h
  | _, _, _, .fn i => .fn i
  | _, _, _, .rng n e => .rng (objs_out o e (fun _ => (nomatch ·)) (fun _ => (nomatch ·)) (fun _ => (nomatch ·)) (fun _ _ => (nomatch ·)) (fun _ _ => (nomatch ·))) e
  | _, _, f, .loc _ => nomatch f
  | _, _, f, .scr _ _ => nomatch f
  | _, _, f, .sett _ _ _ _ _ _ => nomatch f
  | _, _, f, .ins _ _ _ => nomatch f
  | _, _, f, .exv _ _ _ _ _ => nomatch f
  | _, _, f, .exv0 _ _ => nomatch f
  | _, _, f, .exc _ _ _ _ => nomatch f
  | _, _, f, .exc0 _ => nomatch f
theorem RVs.free {R : RC} {p p' : List Addr} {H : Hp} (o : Objs H p') : ∀ {ds : List D} {vs : List V}, frL ds = true → RVs R p H ds vs → RVs R p' H ds vs
  | _, _, _, .nil => .nil
  | _, _, f, .cons r rs => .cons (RV.free o (Bool.and_eq_true_iff.mp f).1 r) (RVs.free o (Bool.and_eq_true_iff.mp f).2 rs)
end
theorem graft_ok {R : RC} {f : List D → M D} {vs : List V} {H : Hp} {Q : VK} {E : Value → Option Addr → Hp → Prop} (h : spF R (graft f) vs H Q E) : spF R f vs H Q E := by
  obtain ⟨p, S, ds, rs, rv, h⟩ := h
  unfold graft at h
  by_cases hf : frL ds = true
  · rw [if_pos hf] at h
    refine ⟨[], [], ds, ⟨rfl, List.nodup_nil, fun a e => ⟨by simp, (rs.gt a e).2⟩, fun l o a e => by simp at e⟩, RVs.free (p' := []) (fun a (ha : a ∈ ([] : List Addr)) => nomatch ha) hf rv, ?_⟩
    cases e : f ds [] with
    | bad => rw [e] at h; exact h.elim
    | exc c fs T => rw [e] at h; exact h.elim
    | ok d T =>
      rw [e] at h
      have h : Aft R p H (keep d T S) (fun d p' S' H' => ∀ v, RV R p' H' d v → Q v H') E := h
      intro p' H' _ t rt v rv'
      have out : ∀ a ∈ p, ∃ u, H a = some u := fun a ha => rs.mem ha
      have np : ∀ a ∈ p, a ∉ p' := fun a ha => by
        obtain ⟨u, e⟩ := out a ha
        exact (t a u (by simp) e).1
      have tp : Tm p H p H' := ⟨fun a u n e => ⟨n, (t a u (by simp) e).2⟩, t.fz⟩
      have r1 : RS R p S H' := rs.mono tp fun a u _ e => (t a u (by simp) e).2
      unfold keep at h
      by_cases hd : frD d = true
      · rw [if_pos hd] at h
        exact h p H' (List.prefix_refl _) tp r1 v (RV.free r1.objs hd rv')
      · rw [if_neg hd] at h
        cases d with
        | loc l =>
          have h : Aft R p H (match T[l]? with
            | some (.lst xs) => if frL xs = true then .ok (.loc S.length) (S ++ [.lst xs]) else .bad
            | _ => .bad) (fun d p' S' H' => ∀ v, RV R p' H' d v → Q v H') E := h
          split at h
          · rename_i xs ex
            split at h
            · rename_i hx
              cases rv' with
              | @loc _ a el =>
                obtain ⟨us, g1, g2⟩ := rt.at_ l _ a ex el
                have ha : a ∈ p' := List.mem_of_getElem? el
                have na : a ∉ p := fun z => np a z ha
                have ob : Objs H' (p ++ [a]) := fun b hb => by
                  rcases List.mem_append.mp hb with hb | hb
                  · exact r1.objs b hb
                  · rw [show b = a by simpa using hb]; exact .inl ⟨us, g1⟩
                have ng : R.g ≠ some a := fun z => (rt.gt a z).1 ha
                have r2 : RS R (p ++ [a]) (S ++ [.lst xs]) H' := by
                  refine r1.adopt na ⟨us, g1, RVs.free ob hx g2⟩ ng fun l o b e1 e2 => ?_
                  have ro := r1.at_ l o b e1 e2
                  cases o with
                  | lst ds => obtain ⟨vs, h1, h2⟩ := ro; exact ⟨vs, h1, h2.adL g1 ng⟩
                  | dct kvs => obtain ⟨vs, h1, h2⟩ := ro; exact ⟨vs, h1, paired_imp h2 fun x y z => ⟨z.1, z.2.adL g1 ng⟩⟩
                  | dctZ kvs => obtain ⟨o, vs, h1, h2⟩ := ro; exact ⟨o, vs, h1, paired_imp h2 fun x y z => ⟨z.1, z.2.adL g1 ng⟩⟩
                  | dcN kvs => obtain ⟨xs, h1, h2, h3, h4⟩ := ro; exact ⟨xs, h1, h2, h3, paired_imp h4 fun x y ⟨z1, ⟨ds, k1, k2⟩, v, z3, z4⟩ => ⟨z1, ⟨ds, k1.adL g1 ng, k2⟩, v, z3.adL g1 ng, z4⟩⟩
                  | dcNZ kvs => obtain ⟨o', xs, h1, h2, h3, h4⟩ := ro; exact ⟨o', xs, h1, h2, h3, paired_imp h4 fun x y ⟨z1, ⟨ds, k1, k2⟩, v, z3, z4⟩ => ⟨z1, ⟨ds, k1.adL g1 ng, k2⟩, v, z3.adL g1 ng, z4⟩⟩
                refine h (p ++ [a]) H' (pre_snoc _ _) ⟨fun b u n e => ?_, t.fz⟩ r2 _ (.loc (by rw [← rs.len]; simp))
                obtain ⟨n1, e1⟩ := t b u (by simp) e
                refine ⟨fun z => ?_, e1⟩
                rcases List.mem_append.mp z with z | z
                · exact n z
                · exact n1 (by rw [show b = a by simpa using z]; exact ha)
            · exact h.elim
          · exact h.elim
        | _ => exact h.elim
  · rw [if_neg hf] at h
    exact ⟨p, S, ds, rs, rv, h⟩
end Jm

set_option Elab.async false
set_option linter.all false
set_option maxRecDepth 100000
set_option maxHeartbeats 4000000
/-! Jm, part S: the table of the defs; a law over it. -/
noncomputable section
namespace Jm
open PySem PySem.Spec PyProof.Rows L2
/-- what a row is: a def of the module and the name that it gives itself; a method of a class; an own class's __init__ and the field that it stores (a class by its name and number) -/
inductive Rk where
  | fn (nm : Str) | mth (cl m : Str) (c : Nat) | ini (cl f : Str) (c : Nat)
/-- one def of the module: its number, its name, its statement, the parameters, all names, how it is called by keywords -/
structure DRow where
  i : Nat
  x : Str
  st : Stmt
  ps : List Str
  N : List Str
  kf : List KwF
  gr : Bool
  k : Rk
def DRow.fd (r : DRow) : Fd := ⟨r.ps, r.N, defBody r.st, defScope r.st⟩
def DRow.at_ (r : DRow) : Str × Option Str := match r.k with
  | .fn _ => (r.x, none)
  | .mth cl m _ => (cl, some m)
  | .ini cl _ _ => (cl, some "__init__")
def DRow.nm (r : DRow) : Str := match r.k with
  | .fn nm => nm
  | .mth _ m _ => m
  | .ini _ _ _ => "__init__"
def DRow.ql (r : DRow) : Str := match r.k with
  | .fn nm => nm
  | .mth cl m _ => cl ++ "." ++ m
  | .ini cl _ _ => cl ++ ".__init__"
def DRow.dd (r : DRow) : He.DefD := ⟨r.at_, r.nm, r.ql, defArgs r.st, defBody r.st, defScope r.st, [], []⟩
def DRow.fld (r : DRow) : Option Str := match r.k with
  | .ini _ f _ => some f
  | _ => none
def DRow.gv (r : DRow) : Gv := match r.k with
  | .fn _ => .fn r.i r.ps r.kf
  | .mth _ m c => .mth r.i c m
  | .ini _ f c => .mk r.i c f
def DRow.atr (r : DRow) : List (Str × Gv) := match r.k with
  | .ini _ f c => [(dotN f, .atr c f)]
  | _ => []
def DRow.fa (r : DRow) : List He.Fa := match r.k with
  | .fn _ => [.glo r.x]
  | .mth cl m _ => [.cls cl, .meth cl m]
  | .ini cl f _ => [.glo cl, .cls cl, .mkr cl, .noat cl f]
def rowAt (T : List DRow) (i : Nat) : Option DRow := T.find? fun r => r.i == i
/-- gr: read in a store of its own where that is possible -/
def DRow.run (r : DRow) (gl : Md) (cf : CF) : List D → M D := if r.gr = true then graft (r.fd.run gl cf) else r.fd.run gl cf
def callF (T : List DRow) (gl : Md) : Nat → CF
  | 0 => fun _ _ _ => .bad
  | d + 1 => fun i ds => match rowAt T i with
    | some r => (match r.fld with
      | none => r.run gl (callF T gl d) ds
      | some f => (match d with
        | 0 => fun _ => .bad
        | e + 1 => r.fd.runI gl (callF T gl e) f ds))
    | none => fun _ => .bad
/-- ints, strings of the module -/
inductive Cn where
  | int (i : Int) | str (x : Str)
def Cn.d : Cn → D
  | .int i => .int i
  | .str x => .str x
def Cn.f (x : Str) : Cn → He.Fa
  | .int i => .int x i
  | .str z => .str x z
/-- an own exception class: its number, its name, its __init__ and that one's parameter -/
structure CRow where
  i : Nat
  x : Str
  m : Option (Stmt × Str)
def cAt (CT : List CRow) (i : Nat) : Option CRow := CT.find? fun r => r.i == i
/-- all of one base (number b), nothing else under one another -/
def subOf (b : Nat) (CT : List CRow) : List ((Nat × Nat) × Bool) := CT.flatMap fun r => CT.map fun q => ((r.i, q.i), r.i == q.i || q.i == b)
def subFa (b : Nat) (CT : List CRow) : List He.Fa := CT.flatMap fun r => CT.map fun q => .exm r.x q.x (r.i == q.i || q.i == b)
structure Tab where
  T : List DRow
  cs : List (Str × Cn)
  fs : List Str
  CT : List CRow
  b : Nat
def Tab.gl (Z : Tab) : List (Str × Gv) := Z.T.map (fun r => (r.x, r.gv)) ++ (Z.T.flatMap DRow.atr ++ (Z.cs.map (fun q => (q.1, .cst q.2.d)) ++ (Z.fs.map (fun x => (x, .free)) ++ Z.CT.map fun r => (r.x, .cls r.i))))
def Tab.md (Z : Tab) : Md := ⟨Z.gl, Z.CT.map (·.i), subOf Z.b Z.CT⟩
def CRow.has (r : CRow) : Bool := r.m.isSome
def Tab.fa (Z : Tab) : List He.Fa := Z.T.flatMap DRow.fa ++ (Z.cs.map (fun q => q.2.f q.1) ++ (Z.fs.map (fun x => .free x) ++ (Z.CT.map (fun r => .glo r.x) ++ ((Z.CT.flatMap fun r => flds.map fun f => .noat r.x f) ++ ((Z.CT.filter CRow.has).map (fun r => .meth r.x "__init__") ++ subFa Z.b Z.CT)))))
def CRow.dd (r : CRow) : Option He.DefD := r.m.map fun q => ⟨(r.x, some "__init__"), "__init__", r.x ++ ".__init__", defArgs q.1, defBody q.1, defScope q.1, [], []⟩
def Tab.dd (Z : Tab) : List He.DefD := Z.T.map DRow.dd ++ Z.CT.filterMap CRow.dd
/-- where a number's def or class stands -/
def adN (T : List DRow) (CT : List CRow) (i : Nat) : Option (Str × Option Str) := match rowAt T i with
  | some r => some r.at_
  | none => match cAt CT i with
    | some r => some (r.x, none)
    | none => T.findSome? fun r => match r.k with
      | .ini cl _ c => if c = i then some (cl, none) else none
      | _ => none
def adOf (Z : Tab) (K : PySem.W.Frag) (i : Nat) : Addr := match adN Z.T Z.CT i with
  | some q => He.fAd K q
  | none => 0
/-- the class's number is its own -/
def DRow.cOk (T : List DRow) (CT : List CRow) (r : DRow) : Bool := match r.k with
  | .fn _ => true
  | .mth cl m c => decide (adN T CT c = some (cl, none)) && decide (r.x = dotN m)
  | .ini cl _ c => decide (adN T CT c = some (cl, none)) && decide (r.x = cl)
/-- the classes' own look -/
def clsB (CT : List CRow) (K : PySem.W.Frag) : Bool := CT.all fun r => oexB K (He.ga K r.x) && (xfB K (He.ga K r.x) && (xcB K (He.ga K r.x) && (r.m.isSome || PySem.W.excIn K (He.ga K r.x) He.veBase "ValueError.__new__")))
abbrev AlJ : Type := He.AlD × Bool
def obsJ (Z : Tab) (K : PySem.W.Frag) : AlJ := (He.obsD Z.fa Z.dd K, clsB Z.CT K)
def obsJG (Z : Tab) (g : Addr → Option Obj) : AlJ := obsJ Z (He.frG g (He.asD g 4))
def SaysJ (Z : Tab) (K : PySem.W.Frag) : Prop := obsJ Z K = (He.valD Z.dd, true)
def hookJ (Z : Tab) : PySem.W.Hook where
  α := AlJ
  obs := fun s => obsJG Z s.heap.get?
  val := fun _ => (He.valD Z.dd, true)
  says := fun _ h => ∃ K : PySem.W.Frag, K.In h ∧ SaysJ Z K
  of := fun _ _ e => ⟨_, He.frG_in, e⟩
  keeps := fun _ _ _ ⟨K, hK, c⟩ k => ⟨K, PySem.W.Frag.In.keeps hK k, c⟩
theorem obsJG_eq {Z : Tab} {g : Addr → Option Obj} {s : Shared} (h : ∀ a, g a = s.heap.get? a) : obsJG Z g = (hookJ Z).obs s := by
  have e : g = s.heap.get? := funext h
  rw [e] <;> rfl
/-- what the text alone says of a def -/
def DRowB (r : DRow) : Prop := scC r.N r.ps (defScope r.st) = true ∧
  (∀ (kV doc pm : Value) (an : Option Addr) (cdv ct : Value) (us : List Value), us.length = r.ps.length → bindArgs (PySem.W.fnOf r.nm r.ql (defArgs r.st) (defBody r.st) (defScope r.st) .none kV doc pm an cdv ct) ⟨us, []⟩ = pure (r.ps.zip us)) ∧
  ∀ q ∈ r.kf, ∀ (kV doc pm : Value) (an : Option Addr) (cdv ct : Value) (us ws : List Value), us.length = q.1 → ws.length = q.2.1.length →
    bindArgs (PySem.W.fnOf r.nm r.ql (defArgs r.st) (defBody r.st) (defScope r.st) .none kV doc pm an cdv ct) ⟨us, q.2.1.zip ws⟩ = pure (r.ps.zip (arr q.2.2 (us ++ ws)))
inductive AllR (P : DRow → Prop) : List DRow → Prop
  | nil : AllR P []
  | cons {r : DRow} {T : List DRow} : P r → AllR P T → AllR P (r :: T)
theorem AllR.mem {P : DRow → Prop} : ∀ {T : List DRow}, AllR P T → ∀ r ∈ T, P r
  | _, .nil, _, h => nomatch h
  | _, .cons a b, r, h => by
    rcases List.mem_cons.mp h with e | h
    · rw [e]; exact a
    · exact b.mem r h
theorem kbn_of {K : PySem.W.Frag} {x qual : Str} {params : Arguments} {body : List Stmt} {scope : Scope} {f : Addr} {fd : FuncData} {ps ks : List Str} {n : Nat} {ix : List Nat} (F : FunD K x qual params body scope [] [] f fd)
    (h : ∀ (kV doc pm : Value) (an : Option Addr) (cdv ct : Value) (us ws : List Value), us.length = n → ws.length = ks.length → bindArgs (PySem.W.fnOf x qual params body scope .none kV doc pm an cdv ct) ⟨us, ks.zip ws⟩ = pure (ps.zip (arr ix (us ++ ws)))) :
    KBn K fd ps n ks (fun us ws => arr ix (us ++ ws)) (fun vs zs => arr ix (vs ++ zs)) := by
  obtain ⟨oc, od, dV, kV, doc, pm, an, cdv, ct, osl, rfl, lk, hcd, hD, hK⟩ := F.ex
  rcases hD with ⟨_, rfl⟩ | ⟨e, _⟩
  · exact ⟨fun s us ws X l1 l2 => .of_eq (h kV doc pm an cdv ct us ws l1 l2), fun r1 r2 => vals_arr (r1.append r2) ix⟩
  · exact absurd rfl e
theorem kbn_of2 {K : PySem.W.Frag} {x qual : Str} {params : Arguments} {body : List Stmt} {scope : Scope} {f : Addr} {fd : FuncData} {ps ks : List Str} {n : Nat} (F : FunD K x qual params body scope [] [] f fd)
    (h : ∀ (kV doc pm : Value) (an : Option Addr) (cdv ct : Value) (us ws : List Value), us.length = n → ws.length = ks.length → bindArgs (PySem.W.fnOf x qual params body scope .none kV doc pm an cdv ct) ⟨us, ks.zip ws⟩ = pure (ps.zip (us ++ ws))) :
    KBn K fd ps n ks (fun us ws => us ++ ws) (fun vs zs => vs ++ zs) := by
  obtain ⟨oc, od, dV, kV, doc, pm, an, cdv, ct, osl, rfl, lk, hcd, hD, hK⟩ := F.ex
  rcases hD with ⟨_, rfl⟩ | ⟨e, _⟩
  · exact ⟨fun s us ws X l1 l2 => .of_eq (h kV doc pm an cdv ct us ws l1 l2), fun r1 r2 => r1.append r2⟩
  · exact absurd rfl e
theorem find_self : ∀ {T : List DRow} {r : DRow}, (T.map (·.i)).Nodup → r ∈ T → rowAt T r.i = some r
  | r0 :: T, r, nd, h => by
    obtain ⟨n1, n2⟩ := List.nodup_cons.mp (show (r0.i :: T.map (·.i)).Nodup from nd)
    unfold rowAt
    rw [List.find?_cons]
    rcases List.mem_cons.mp h with e | h
    · subst e; simp
    · have ne : (r0.i == r.i) = false := by
        rw [beq_eq_false_iff_ne]
        intro z
        exact n1 (by rw [z]; exact List.mem_map.mpr ⟨r, h, rfl⟩)
      rw [ne]
      exact find_self n2 h
theorem lookup_mem {A : Type} : ∀ {l : List (Str × A)} {x : Str} {g : A}, l.lookup x = some g → (x, g) ∈ l
  | (k, v) :: l, x, g, h => by
    rw [List.lookup_cons] at h
    cases e : x == k with
    | true =>
      rw [e] at h; cases h
      have : x = k := by simpa using e
      rw [this]; exact List.mem_cons_self
    | false => rw [e] at h; exact List.mem_cons_of_mem _ (lookup_mem h)
/-- what the text alone says of a class -/
def CRowB (r : CRow) : Prop := match r.m with
  | none => r.i % 4 = 0
  | some (st, g) => r.i % 4 ≠ 0 ∧ isIni (fldName r.i) g (defBody st) = true ∧ scC ["self", g] ["self", g] (defScope st) = true ∧ ((defScope st).names.lookup g = some .local ∧ (defScope st).names.lookup ("self" : Str) = some .local ∧ (g == ("__debug__" : Str)) = false ∧ (g == ("__classdict__" : Str)) = false) ∧
    (∀ (kV doc pm : Value) (an : Option Addr) (cdv ct : Value) (us : List Value), us.length = 2 → bindArgs (PySem.W.fnOf "__init__" (r.x ++ ".__init__") (defArgs st) (defBody st) (defScope st) .none kV doc pm an cdv ct) ⟨us, []⟩ = pure ((["self", g] : List Str).zip us)) ∧ g = fldName r.i ∧
    ∀ (kV doc pm : Value) (an : Option Addr) (cdv ct : Value) (us ws : List Value), us.length = 1 → ws.length = 1 → bindArgs (PySem.W.fnOf "__init__" (r.x ++ ".__init__") (defArgs st) (defBody st) (defScope st) .none kV doc pm an cdv ct) ⟨us, ([g] : List Str).zip ws⟩ = pure ((["self", g] : List Str).zip (us ++ ws))
inductive AllC (P : CRow → Prop) : List CRow → Prop
  | nil : AllC P []
  | cons {r : CRow} {T : List CRow} : P r → AllC P T → AllC P (r :: T)
theorem AllC.mem {P : CRow → Prop} : ∀ {T : List CRow}, AllC P T → ∀ r ∈ T, P r
  | _, .nil, _, h => nomatch h
  | _, .cons a b, r, h => by
    rcases List.mem_cons.mp h with e | h
    · rw [e]; exact a
    · exact b.mem r h
theorem find_selfC : ∀ {T : List CRow} {r : CRow}, (T.map (·.i)).Nodup → r ∈ T → cAt T r.i = some r
  | r0 :: T, r, nd, h => by
    obtain ⟨n1, n2⟩ := List.nodup_cons.mp (show (r0.i :: T.map (·.i)).Nodup from nd)
    unfold cAt
    rw [List.find?_cons]
    rcases List.mem_cons.mp h with e | h
    · subst e; simp
    · have ne : (r0.i == r.i) = false := by
        rw [beq_eq_false_iff_ne]
        intro z
        exact n1 (by rw [z]; exact List.mem_map.mpr ⟨r, h, rfl⟩)
      rw [ne]
      exact find_selfC n2 h
/-- what the text alone says of all of it -/
structure TabB (Z : Tab) : Prop where
  nd : (Z.T.map (·.i)).Nodup
  ndC : (Z.CT.map (·.i)).Nodup
  no : ∀ r ∈ Z.CT, rowAt Z.T r.i = none
  rows : AllR DRowB Z.T
  crows : AllC CRowB Z.CT
  cl : Z.T.all (DRow.cOk Z.T Z.CT) = true
section
variable {P : Program} {w : World} {K : PySem.W.Frag} {mg : Str → Option Value} {h : Heap} {Z : Tab}
theorem says_fact (c : SaysJ Z K) {f : He.Fa} (hf : f ∈ Z.fa) : f.ok K = true := by
  have c : He.SaysD Z.fa Z.dd K := congrArg (fun z : AlJ => z.1) c
  obtain ⟨i, hi, e⟩ := List.mem_iff_getElem.mp hf
  exact c.fact i (by simp [hi, e])
theorem says_dd (c : SaysJ Z K) {d : He.DefD} (hd : d ∈ Z.dd) : ∃ fd, FunD K d.name d.qual d.params d.body d.scope (d.dvs K) (d.kws K) (He.fAd K d.at_) fd := by
  have c : He.SaysD Z.fa Z.dd K := congrArg (fun z : AlJ => z.1) c
  obtain ⟨i, hi, e⟩ := List.mem_iff_getElem.mp hd
  exact c.def_ i (by simp [hi, e])
theorem says_def (c : SaysJ Z K) {r : DRow} (hr : r ∈ Z.T) : ∃ fd, FunD K r.nm r.ql (defArgs r.st) (defBody r.st) (defScope r.st) [] [] (He.fAd K r.at_) fd := says_dd (d := r.dd) c (List.mem_append_left _ (List.mem_map.mpr ⟨r, hr, rfl⟩))
theorem says_cls (c : SaysJ Z K) {r : CRow} (hr : r ∈ Z.CT) : OexC K (He.ga K r.x) ∧ XfC K (He.ga K r.x) ∧ XcC K (He.ga K r.x) ∧ (r.m.isSome = false → PySem.W.excIn K (He.ga K r.x) He.veBase "ValueError.__new__" = true) := by
  have c : clsB Z.CT K = true := congrArg (fun z : AlJ => z.2) c
  obtain ⟨h1, h2⟩ := band (List.all_eq_true.mp c r hr)
  obtain ⟨h2, h3⟩ := band h2
  obtain ⟨h3, h4⟩ := band h3
  exact ⟨oexB_ok h1, xfB_ok h2, xcB_ok h3, fun e => by rw [e, Bool.false_or] at h4; exact h4⟩
theorem fa_mem {f : He.Fa} (h : f ∈ Z.T.flatMap DRow.fa ∨ f ∈ Z.cs.map (fun q => q.2.f q.1) ∨ f ∈ Z.fs.map (fun x => He.Fa.free x) ∨ f ∈ Z.CT.map (fun r => He.Fa.glo r.x) ∨ f ∈ (Z.CT.flatMap fun r => flds.map fun f => He.Fa.noat r.x f) ∨ f ∈ (Z.CT.filter CRow.has).map (fun r => He.Fa.meth r.x "__init__") ∨ f ∈ subFa Z.b Z.CT) : f ∈ Z.fa := by
  unfold Tab.fa
  simp only [List.mem_append]
  exact h
theorem fa_noat {r : CRow} {f : Str} (hr : r ∈ Z.CT) (hf : f ∈ flds) : He.Fa.noat r.x f ∈ Z.fa := fa_mem (.inr (.inr (.inr (.inr (.inl (List.mem_flatMap.mpr ⟨r, hr, List.mem_map.mpr ⟨f, hf, rfl⟩⟩))))))
theorem fa_meth {r : CRow} (hr : r ∈ Z.CT) (hm : r.has = true) : He.Fa.meth r.x "__init__" ∈ Z.fa := fa_mem (.inr (.inr (.inr (.inr (.inr (.inl (List.mem_map.mpr ⟨r, List.mem_filter.mpr ⟨hr, hm⟩, rfl⟩)))))))
theorem fa_sub {r q : CRow} (hr : r ∈ Z.CT) (hq : q ∈ Z.CT) : He.Fa.exm r.x q.x (r.i == q.i || q.i == Z.b) ∈ Z.fa := fa_mem (.inr (.inr (.inr (.inr (.inr (.inr (List.mem_flatMap.mpr ⟨r, hr, List.mem_map.mpr ⟨q, hq, rfl⟩⟩)))))))
theorem ad_row (B : TabB Z) {r : DRow} (hr : r ∈ Z.T) : adOf Z K r.i = He.fAd K r.at_ := by unfold adOf adN; rw [find_self B.nd hr]
theorem fa_row {r : DRow} {f : He.Fa} (hr : r ∈ Z.T) (hf : f ∈ r.fa) : f ∈ Z.fa := fa_mem (.inl (List.mem_flatMap.mpr ⟨r, hr, hf⟩))
theorem ad_ins {c : Nat} {cl : Str} (h : decide (adN Z.T Z.CT c = some (cl, none)) = true) : adOf Z K c = He.ga K cl := by unfold adOf; rw [of_decide_eq_true h]; rfl
theorem ad_cls (B : TabB Z) {r : CRow} (hr : r ∈ Z.CT) : adOf Z K r.i = He.ga K r.x := by unfold adOf adN; rw [B.no r hr, find_selfC B.ndC hr]; rfl
theorem md_ok (X : K.In h) (G : h.Ns mainGlobals mg) (c : SaysJ Z K) (B : TabB Z) (g : Option Addr) (base : Heap) : MdOk P w K mg base ⟨adOf Z K, g, none⟩ Z.md where
  cls := fun i hi hne => by
    obtain ⟨r, hr, rfl⟩ := List.mem_map.mp hi
    have b := B.crows.mem r hr
    unfold CRowB at b
    cases em : r.m with
    | none => rw [em] at b; exact absurd b hne
    | some q =>
      obtain ⟨st, gn⟩ := q
      rw [em] at b
      obtain ⟨_, b1, b2, b3, b4, b5, b6⟩ := b
      obtain ⟨fd, F⟩ := says_dd c (d := ⟨(r.x, some "__init__"), "__init__", r.x ++ ".__init__", defArgs st, defBody st, defScope st, [], []⟩) (List.mem_append_right _ (List.mem_filterMap.mpr ⟨r, hr, by unfold CRow.dd; rw [em]; rfl⟩))
      have M := He.meth_ok (says_fact c (fa_meth hr (by unfold CRow.has; rw [em]; rfl)))
      have hfl : fldName r.i ∈ flds := by
        unfold fldName flds
        split <;> simp
      have no : PySem.W.findIn K (.ref (He.ga K r.x)) (fldName r.i) = some none := He.noat_ok (says_fact c (fa_noat hr hfl))
      have oc := (says_cls c hr).1
      show ClsI P w K mg base (adOf Z K r.i) (fldName r.i)
      rw [ad_cls B hr]
      exact ⟨oc, _, fd, ["self", gn], M.at_, beq_iff_eq.mp M.fn, init_ok F b1 b2 b3 oc no, F.bindsN b4, by rw [← b5]; exact kbn_of2 F b6⟩
  fld := fun i hi => by
    obtain ⟨r, hr, rfl⟩ := List.mem_map.mp hi
    show XfC K (adOf Z K r.i) ∧ ∀ f ∈ flds, PySem.W.findIn K (.ref (adOf Z K r.i)) f = some none
    rw [ad_cls B hr]
    exact ⟨(says_cls c hr).2.1, fun f hf => He.noat_ok (says_fact c (fa_noat hr hf))⟩
  sub := fun q hq => by
    obtain ⟨r, hr, h2⟩ := List.mem_flatMap.mp hq
    obtain ⟨r2, hr2, rfl⟩ := List.mem_map.mp h2
    show PySem.W.exmOne K (.ref (adOf Z K r.i)) (.ref (adOf Z K r2.i)) = _
    rw [ad_cls B hr, ad_cls B hr2]
    exact He.exm_ok (says_fact c (fa_sub hr hr2))
  clx := fun i hi => by
    obtain ⟨r, hr, rfl⟩ := List.mem_map.mp hi
    show ErX K (adOf Z K r.i)
    rw [ad_cls B hr]
    obtain ⟨h1, h2, h3, _⟩ := says_cls c hr
    exact ⟨h1, h2, h3⟩
  x0 := fun i hi h0 => by
    obtain ⟨r, hr, rfl⟩ := List.mem_map.mp hi
    show PySem.W.excIn K (adOf Z K r.i) He.veBase "ValueError.__new__" = true
    rw [ad_cls B hr]
    refine (says_cls c hr).2.2.2 ?_
    have b := B.crows.mem r hr
    unfold CRowB at b
    cases em : r.m with
    | none => rfl
    | some q =>
      obtain ⟨st, gn⟩ := q
      rw [em] at b
      exact absurd h0 b.1
  exn := rfl
theorem callF_row0 {T : List DRow} {md : Md} {r : DRow} {i : Nat} (hr : rowAt T i = some r) (hf : r.fld = none) (d : Nat) : callF T md (d + 1) i = r.run md (callF T md d) := by
  rw [callF.eq_def]
  simp only [hr, hf]
theorem callF_rowI {T : List DRow} {md : Md} {r : DRow} {i : Nat} {f : Str} (hr : rowAt T i = some r) (hf : r.fld = some f) (d : Nat) : callF T md (d + 2) i = r.fd.runI md (callF T md d) f := by
  rw [callF.eq_def]
  simp only [hr, hf]
theorem callF_rowJ {T : List DRow} {md : Md} {r : DRow} {i : Nat} {f : Str} (hr : rowAt T i = some r) (hf : r.fld = some f) : callF T md 1 i = fun _ _ => .bad := by
  rw [callF.eq_def]
  simp only [hr, hf]
theorem callF_row (B : TabB Z) {md : Md} {r : DRow} (hr : r ∈ Z.T) (hf : r.fld = none) (d : Nat) : callF Z.T md (d + 1) r.i = r.run md (callF Z.T md d) := callF_row0 (find_self B.nd hr) hf d
theorem fnok_run {CX : CXT} {base : Heap} {k : Nat} {f : Addr} {fd : FuncData} {ps : List Str} {R : RC} {r : DRow} {gl : Md} {cf : CF} (h : FnOk P w K mg base CX k f fd ps (spF R (r.fd.run gl cf))) : FnOk P w K mg base CX k f fd ps (spF R (r.run gl cf)) := by
  unfold DRow.run
  by_cases e : r.gr = true
  · rw [if_pos e]
    exact ⟨fun vs H Q E q => h.len vs H Q E (graft_ok q), fun A outer s H args us vs Q E hr he hb hv q => h.run A outer s H args us vs Q E hr he hb hv (graft_ok q)⟩
  · rw [if_neg e]; exact h
/-- what a row keeps at a depth -/
def RowI (P : Program) (w : World) (K : PySem.W.Frag) (mg : Str → Option Value) (base : Heap) (Z : Tab) (g : Option Addr) (d : Nat) (r : DRow) : Prop := match r.k with
  | .ini _ f c => ∃ (k : Nat) (fd : FuncData), k + 1 ≤ d + 2 ∧ FnOk P w K mg base (L2.CX P w) k (adOf Z K r.i) fd r.ps (spI ⟨K, P, w, adOf Z K, g, none⟩ c f (callF Z.T Z.md d r.i)) ∧ Binds K fd r.ps []
  | _ => FnI P w K mg base ⟨adOf Z K, g, none⟩ (callF Z.T Z.md d) (d + 2) r.i r.ps r.kf
/-- every def of the table, at every depth -/
theorem tab_ok (X : K.In h) (G : h.Ns mainGlobals mg) (c : SaysJ Z K) (B : TabB Z) (g : Option Addr) (base : Heap) :
    ∀ d, ∀ x v, Z.gl.lookup x = some v → GvOk P w K mg base ⟨adOf Z K, g, none⟩ (callF Z.T Z.md d) true (d + 2) x v := by
  have cOk : ∀ r ∈ Z.T, r.cOk Z.T Z.CT = true := fun r hr => List.all_eq_true.mp B.cl r hr
  have core : ∀ d, (∀ r ∈ Z.T, RowI P w K mg base Z g d r) → ∀ x v, Z.gl.lookup x = some v → GvOk P w K mg base ⟨adOf Z K, g, none⟩ (callF Z.T Z.md d) true (d + 2) x v := by
    intro d hd x v hl
    rcases List.mem_append.mp (lookup_mem hl) with hm | hm
    · obtain ⟨r, hr, e⟩ := List.mem_map.mp hm
      cases e
      have h1 := hd r hr
      have h2 := cOk r hr
      have h3 := @fa_row Z r
      unfold RowI at h1
      unfold DRow.cOk at h2
      unfold DRow.gv
      cases ek : r.k with
      | fn nm =>
        rw [ek] at h1
        refine ⟨?_, fun _ => h1⟩
        show mg r.x = some (.ref (adOf Z K r.i))
        rw [ad_row B hr]
        unfold DRow.at_
        rw [ek]
        exact He.glo_ok X G (says_fact c (h3 hr (by unfold DRow.fa; rw [ek]; exact List.mem_cons_self)))
      | mth cl m cn =>
        rw [ek] at h1 h2
        obtain ⟨h2, h4⟩ := band h2
        intro _
        show Cls K (adOf Z K cn) ∧ Meth K (adOf Z K cn) m (adOf Z K r.i) ∧ _
        obtain ⟨fd, F, hb, _⟩ := h1
        refine ⟨?_, ?_, fd, r.ps, F, hb⟩
        · rw [ad_ins h2]; exact He.cls_ok (says_fact c (h3 hr (by unfold DRow.fa; rw [ek]; simp)))
        · rw [ad_ins h2, ad_row B hr]
          unfold DRow.at_
          rw [ek]
          exact He.meth_ok (says_fact c (h3 hr (by unfold DRow.fa; rw [ek]; simp)))
      | ini cl f cn =>
        rw [ek] at h1 h2
        obtain ⟨h2, h4⟩ := band h2
        have h4 : r.x = cl := of_decide_eq_true h4
        obtain ⟨k, fd, hk, F, hb⟩ := h1
        have hmk := says_fact c (h3 hr (f := .mkr cl) (by unfold DRow.fa; rw [ek]; simp))
        refine ⟨?_, fun _ => ⟨k, adOf Z K r.i, fd, r.ps, hk, ?_, F, hb⟩⟩
        · show mg r.x = some (.ref (adOf Z K cn))
          rw [ad_ins h2, h4]
          exact He.glo_ok X G (says_fact c (h3 hr (by unfold DRow.fa; rw [ek]; simp)))
        · show Mk K (adOf Z K cn) (adOf Z K r.i)
          rw [ad_ins h2, ad_row B hr]
          unfold DRow.at_
          rw [ek]
          exact He.mkr_ok hmk
    rcases List.mem_append.mp hm with hm | hm
    · obtain ⟨r, hr, e⟩ := List.mem_flatMap.mp hm
      have h2 := cOk r hr
      unfold DRow.cOk at h2
      unfold DRow.atr at e
      split at e
      · rename_i cl f cn ek
        rw [ek] at h2
        obtain ⟨h2, h4⟩ := band h2
        rw [List.mem_singleton] at e
        cases e
        intro _
        show Cls K (adOf Z K cn) ∧ NoAttr K (adOf Z K cn) f
        rw [ad_ins h2]
        exact ⟨He.cls_ok (says_fact c (fa_row hr (by unfold DRow.fa; rw [ek]; simp))), He.noat_ok (says_fact c (fa_row hr (by unfold DRow.fa; rw [ek]; simp)))⟩
      · cases e
    rcases List.mem_append.mp hm with hm | hm
    · obtain ⟨⟨y, q⟩, hr, e⟩ := List.mem_map.mp hm
      cases e
      have hf := says_fact c (fa_mem (.inr (.inl (List.mem_map.mpr ⟨_, hr, rfl⟩))))
      cases q with
      | int i =>
        obtain ⟨t, e⟩ := He.int_ok X G hf
        exact ⟨.int i t, .int i, e, ⟨t, rfl⟩, fun _ _ => .int i⟩
      | str z =>
        obtain ⟨t, e⟩ := He.str_ok X G hf
        exact ⟨.str z t, .str z, e, ⟨t, rfl⟩, fun _ _ => .str z⟩
    rcases List.mem_append.mp hm with hm | hm
    · obtain ⟨y, hr, e⟩ := List.mem_map.mp hm
      cases e
      exact He.free_ok X G (says_fact c (fa_mem (.inr (.inr (.inl (List.mem_map.mpr ⟨_, hr, rfl⟩))))))
    · obtain ⟨r, hr, e⟩ := List.mem_map.mp hm
      cases e
      show mg r.x = some (.ref (adOf Z K r.i))
      rw [ad_cls B hr]
      exact He.glo_ok X G (says_fact c (fa_mem (.inr (.inr (.inr (.inl (List.mem_map.mpr ⟨r, hr, rfl⟩)))))))
  have bad : ∀ d, ∀ r ∈ Z.T, (callF Z.T Z.md d r.i = fun _ _ => .bad) → RowI P w K mg base Z g d r := by
    intro d r hr hb
    obtain ⟨fd, F⟩ := says_def c hr
    obtain ⟨b1, b2, b3⟩ := B.rows.mem r hr
    have F' : FunD K r.nm r.ql (defArgs r.st) (defBody r.st) (defScope r.st) [] [] (adOf Z K r.i) fd := by rw [ad_row B hr]; exact F
    have I : FnI P w K mg base ⟨adOf Z K, g, none⟩ (callF Z.T Z.md d) (d + 2) r.i r.ps r.kf := by
      refine ⟨fd, ?_, F'.bindsN b2, F'.kp, fun q hq => kbn_of F' (b3 q hq)⟩
      rw [hb]
      exact ⟨fun vs H Q E ⟨p, S, ds, _, _, hh⟩ => hh.elim, fun A outer s H args us vs Q E _ _ _ _ ⟨p, S, ds, _, _, hh⟩ => hh.elim⟩
    unfold RowI
    split
    · refine ⟨d + 1, fd, by omega, ?_, F'.bindsN b2⟩
      rw [hb]
      exact ⟨fun vs H Q E ⟨p, S, ds, _, _, _, _, _, _, _, _, hh⟩ => hh.elim, fun A outer s H args us vs Q E _ _ _ _ ⟨p, S, ds, _, _, _, _, _, _, _, _, hh⟩ => hh.elim⟩
    · exact I
  intro d
  refine core d ?_
  induction d using Nat.strongRecOn with
  | ind d ih =>
  intro r hr
  match d, ih with
  | 0, _ => exact bad 0 r hr rfl
  | d + 1, ih =>
    have h0 := ih d (by omega)
    obtain ⟨fd, F⟩ := says_def c hr
    obtain ⟨b1, b2, b3⟩ := B.rows.mem r hr
    have F' : FunD K r.nm r.ql (defArgs r.st) (defBody r.st) (defScope r.st) [] [] (adOf Z K r.i) fd := by rw [ad_row B hr]; exact F
    have pl : r.fld = none → FnI P w K mg base ⟨adOf Z K, g, none⟩ (callF Z.T Z.md (d + 1)) (d + 1 + 2) r.i r.ps r.kf := by
      intro hf
      have F1 := fd_ok (P := P) (w := w) (mg := mg) (base := base) (fa := ⟨adOf Z K, g, none⟩) (cf := callF Z.T Z.md d) (gl := Z.md) (f := r.fd) (d := d) F' b1 (md_ok X G c B g base) (core d h0)
      refine ⟨fd, ?_, F'.bindsN b2, F'.kp, fun q hq => kbn_of F' (b3 q hq)⟩
      show FnOk _ _ _ _ _ _ _ _ _ _ (spF _ (callF Z.T Z.md (d + 1) r.i))
      rw [callF_row B hr hf]; exact fnok_run F1
    unfold RowI
    cases ek : r.k with
    | fn nm => exact pl (by unfold DRow.fld; rw [ek])
    | mth cl m cn => exact pl (by unfold DRow.fld; rw [ek])
    | ini cl f cn =>
      have hf : r.fld = some f := by unfold DRow.fld; rw [ek]
      have h2 := cOk r hr
      unfold DRow.cOk at h2
      rw [ek] at h2
      obtain ⟨h2, h4⟩ := band h2
      match d, ih, h0 with
      | 0, _, _ =>
        have q := bad 1 r hr (callF_rowJ (find_self B.nd hr) hf)
        unfold RowI at q
        rw [ek] at q
        exact q
      | d + 1, ih, _ =>
        have h0 := ih d (by omega)
        have hC : Cls K (adOf Z K cn) := by rw [ad_ins h2]; exact He.cls_ok (says_fact c (fa_row hr (by unfold DRow.fa; rw [ek]; simp)))
        have hno : NoAttr K (adOf Z K cn) f := by rw [ad_ins h2]; exact He.noat_ok (says_fact c (fa_row hr (by unfold DRow.fa; rw [ek]; simp)))
        have F1 := fd_okI (P := P) (w := w) (mg := mg) (base := base) (fa := ⟨adOf Z K, g, none⟩) (cf := callF Z.T Z.md d) (gl := Z.md) (f := r.fd) (d := d) (c := cn) (fld := f) F' b1 (md_ok X G c B g base) (core d h0) hC hno
        refine ⟨d + 3, fd, by omega, ?_, F'.bindsN b2⟩
        rw [callF_rowI (find_self B.nd hr) hf]
        exact F1
theorem fnok_ex {CX : CXT} {base : Heap} {k : Nat} {f : Addr} {fd : FuncData} {ps : List Str} {A : Type} {sp : A → Sp} (h : ∀ g, FnOk P w K mg base CX k f fd ps (sp g)) : FnOk P w K mg base CX k f fd ps (fun vs H Q E => ∃ g, sp g vs H Q E) :=
  ⟨fun vs H Q E ⟨g, q⟩ => (h g).len vs H Q E q, fun A outer s H args us vs Q E hr he hb hv ⟨g, q⟩ => (h g).run A outer s H args us vs Q E hr he hb hv q⟩
theorem fnok_no {base : Heap} {k : Nat} {f : Addr} {fd : FuncData} {ps : List Str} {sp : Sp} (h : FnOk P w K mg base (L2.CX P w) k f fd ps sp) : FnOk P w K mg base CX0 k f fd ps (fun vs H Q _ => sp vs H Q E0) :=
  ⟨fun vs H Q E q => h.len vs H Q _ q, fun A outer s H args us vs Q E hr he hb hv q => codeAny_mono (h.run A outer s H args us vs Q E0 hr he hb hv q) fun r s' z => by
    cases r with
    | error e =>
      obtain ⟨_, _, _, _, _, _, _, _, _, _, _, _, x⟩ := z
      exact x.elim
    | ok fl => cases fl <;> exact z⟩
theorem mem_cons_all {A : Type} {P : A → Prop} {a : A} {l : List A} (h : P a) (t : ∀ q ∈ l, P q) : ∀ q ∈ a :: l, P q := fun q hq => by
  rcases List.mem_cons.mp hq with e | hq
  · rw [e]; exact h
  · exact t q hq
theorem rvs_ints {R : RC} {p : List Addr} {H : Hp} : ∀ ns : List Int, RVs R p H (ns.map D.int) (ns.map V.int)
  | [] => .nil
  | n :: ns => .cons (.int n) (rvs_ints ns)
/-- the law's promise: at every script the reading says True -/
def LawOk (Z : Tab) (d i n : Nat) : Prop := ∀ ns : List Int, ns.length ≤ n → ∃ S, callF Z.T Z.md d i [.scr (ns.map D.int)] [] = .ok (.bl true) S
theorem law_facts {r : DRow} {d n : Nat} {f : Addr} (X : K.In h) (G : h.Ns mainGlobals mg) (c : SaysJ Z K) (B : TabB Z) (hr : r ∈ Z.T) (hk : ∃ nm, r.k = .fn nm) (hx : r.ps = [("script" : Str)]) (hmg : mg r.x = some (.ref f)) (hL : LawOk Z (d + 1) r.i n) :
    ∃ (K : PySem.W.Frag) (fd : FuncData) (sp : Sp), K.In h ∧ (∀ (s : Shared) (u : Value), BindsTo s fd ⟨[u], []⟩ [(("script" : Str), u)]) ∧
      (∀ (H : Hp) (a : Addr) (ns : List Int), ns.length ≤ n → Only H → SqL K H a (ns.map V.int) → sp [.ref a] H (fun v _ => v = .bl true) fun _ _ _ => False) ∧
      ∀ base : Heap, K.In base → base.Ns mainGlobals mg → FnOk P w K mg base CX0 (d + 3) f fd [("script" : Str)] sp := by
  obtain ⟨fd, F⟩ := says_def c hr
  obtain ⟨b1, b2, b3⟩ := B.rows.mem r hr
  obtain ⟨nm, hk⟩ := hk
  have hat : r.at_ = (r.x, none) := by unfold DRow.at_; rw [hk]
  have e := hmg.symm.trans (He.glo_ok X G (says_fact c (fa_row hr (by unfold DRow.fa; rw [hk]; exact List.mem_cons_self))))
  have e : f = He.fAd K r.at_ := by cases e; rw [hat]; rfl
  subst e
  have bA := FunD.bindsA (ps := r.ps) F b2
  rw [hx] at bA
  refine ⟨K, fd, fun vs H Q E => ∃ g, spF ⟨K, P, w, adOf Z K, g, none⟩ (callF Z.T Z.md (d + 1) r.i) vs H Q E0, X, fun s u => bA s [u] rfl, fun H a ns hl hO hS => ?_, fun base _ _ => fnok_no (fnok_ex fun g => ?_)⟩
  · obtain ⟨S, hS'⟩ := hL ns hl
    have fin : ∀ g, (∀ b, g = some b → ∃ u, H b = some u) → ScrAt ⟨K, P, w, adOf Z K, g, none⟩ [] H a (ns.map V.int) → spF ⟨K, P, w, adOf Z K, g, none⟩ (callF Z.T Z.md (d + 1) r.i) [.ref a] H (fun v _ => v = .bl true) fun _ _ _ => False := fun g hg hs => by
      refine ⟨[], [], [.scr (ns.map D.int)], ⟨rfl, List.nodup_nil, fun b e => ⟨by simp, hg b e⟩, fun l o a e => by simp at e⟩, .cons (.scr hs (rvs_ints ns)) .nil, ?_⟩
      rw [hS']
      intro p' H' _ _ _ v rv
      cases rv
      rfl
    rcases hS with hS | hS
    · refine ⟨some a, fin (some a) (fun b e => ?_) (.inl ⟨rfl, by simp, hS⟩)⟩
      cases e
      rcases hS with h1 | ⟨o, h1⟩ <;> exact ⟨_, h1⟩
    · exact ⟨none, fin none (fun b e => nomatch e) (.inr hS)⟩
  · rw [callF_row B hr (by unfold DRow.fld; rw [hk]), ← hx]
    show FnOk _ _ _ _ _ _ _ _ _ _ (spF _ _)
    exact fnok_run (fd_ok (fa := ⟨adOf Z K, g, none⟩) (f := r.fd) F b1 (md_ok X G c B g base) (tab_ok X G c B g base d))
end
end Jm

set_option Elab.async false
set_option linter.all false
set_option maxRecDepth 100000
set_option maxHeartbeats 4000000
/-! Jm, part T: rules for the plain part: what a reading ends in. -/
noncomputable section
namespace Jm
open PySem PySem.Spec PyProof.Rows L2
def runD (a b : Nat) (F : E Out) (ds : List D) : M D := fun S => if ds.length = a then outD (F (ds.map some ++ List.replicate (b - ds.length) none) S) else .bad
/-- __init__ of an own class with one field -/
def runI (a b : Nat) (F : E D) (ds : List D) : M D := fun S => if ds.length + 1 = a then F (none :: (ds.map some ++ List.replicate (b - (ds.length + 1)) none)) S else .bad
theorem callF_at {T : List DRow} {gl : Md} {i : Nat} {r : DRow} {G : CF → List D → M D} (h : rowAt T i = some r) (hf : r.fld = none) (e : ∀ cf, r.run gl cf = G cf) (d : Nat) : callF T gl (d + 1) i = G (callF T gl d) := by
  rw [callF_row0 h hf, ← e]
theorem callF_atI {T : List DRow} {gl : Md} {i : Nat} {r : DRow} {f : Str} {G : CF → List D → M D} (h : rowAt T i = some r) (hf : r.fld = some f) (e : ∀ cf, r.fd.runI gl cf f = G cf) (d : Nat) : callF T gl (d + 2) i = G (callF T gl d) := by
  rw [callF_rowI h hf, ← e]

abbrev PX := Nat → List D → Sto → Prop
abbrev nX : PX := fun _ _ _ => False
def Wp {A : Type} (r : Res A) (Q : A → Sto → Prop) (X : PX) : Prop := match r with
  | .ok a S => Q a S
  | .exc c fs S => X c fs S
  | .bad => False
section
variable {A B : Type} {r : Res A} {Q Q' : A → Sto → Prop} {X X' : PX} {S S' : Sto} {n : En}
theorem Wp.imp (h : Wp r Q X) (q : ∀ a S, Q a S → Q' a S) (x : ∀ c fs S, X c fs S → X' c fs S) : Wp r Q' X' := by
  cases r with
  | ok a S => exact q a S h
  | exc c fs S => exact x c fs S h
  | bad => exact h
theorem Wp.of (h : Wp r Q nX) (q : ∀ a S, Q a S → Q' a S) : Wp r Q' X' := h.imp q fun _ _ _ z => z.elim
theorem Wp.q (h : Wp r Q X) (q : ∀ a S, Q a S → Q' a S) : Wp r Q' X := h.imp q fun _ _ _ z => z
theorem Wp.ex (h : Wp r Q nX) : ∃ a S, r = .ok a S ∧ Q a S := by
  cases r with
  | ok a S => exact ⟨a, S, rfl, h⟩
  | exc c fs S => exact h.elim
  | bad => exact h.elim
@[simp] theorem wp_ok (a : A) : Wp (.ok a S) Q X = Q a S := rfl
@[simp] theorem wp_exc (c : Nat) (fs : List D) : Wp (.exc c fs S) Q X = X c fs S := rfl
@[simp] theorem wp_bad : Wp (.bad : Res A) Q X = False := rfl
@[simp] theorem wp_rbind {f : A → Sto → Res B} {Q : B → Sto → Prop} : Wp (rbind r f) Q X = Wp r (fun a S => Wp (f a S) Q X) X := by cases r <;> rfl
theorem wp_nox : Wp (nox r) Q X = Wp r Q nX := by cases r <;> rfl
@[simp] theorem wp_some {a : A} : Wp (lft (some (a, S))) Q X = Q a S := rfl
@[simp] theorem wp_none : Wp (lft (none : Option (A × Sto))) Q X = False := rfl
theorem wp_lft {o : Option (A × Sto)} : Wp (lft o) Q X = (match o with
  | some (a, S) => Q a S
  | none => False) := by cases o <;> rfl
end
section
variable {A B : Type} {Q : A → Sto → Prop} {QD : D → Sto → Prop} {QB : Bool → Sto → Prop} {QL : List D → Sto → Prop} {QO : Out → Sto → Prop} {X : PX} {S S' : Sto} {n : En}
@[simp] theorem wp_bnd {f : E B} {g : B → E A} : Wp (eBnd f g n S) Q X = Wp (f n S) (fun a S' => Wp (g a n S') Q X) X := wp_rbind
@[simp] theorem wp_var {i : Nat} : Wp (eVar i n S) QD X = (match n[i]? with
  | some (some d) => QD d S
  | _ => False) := by
  unfold eVar
  cases n[i]? with
  | none => rfl
  | some o => cases o <;> rfl
@[simp] theorem wp_cst {d : D} : Wp (eCst d n S) QD X = QD d S := rfl
@[simp] theorem wp_all0 : Wp (eAll [] n S) QL X = QL [] S := rfl
@[simp] theorem wp_all {f : E D} {fs : List (E D)} : Wp (eAll (f :: fs) n S) QL X = Wp (f n S) (fun d S1 => Wp (eAll fs n S1) (fun ds S2 => QL (d :: ds) S2) X) X := by
  show Wp (eBnd f _ n S) _ _ = _
  rw [wp_bnd]
  congr 1
  funext d S1
  exact wp_bnd
@[simp] theorem wp_op1 {g : D → Sto → Option (D × Sto)} {f : E D} : Wp (eOp1 g f n S) QD X = Wp (f n S) (fun d S1 => Wp (lft (g d S1)) QD X) X := wp_bnd
@[simp] theorem wp_op2 {g : D → D → Sto → Option (D × Sto)} {f1 f2 : E D} : Wp (eOp2 g f1 f2 n S) QD X = Wp (f1 n S) (fun d1 S1 => Wp (f2 n S1) (fun d2 S2 => Wp (lft (g d1 d2 S2)) QD X) X) X := by
  show Wp (eBnd f1 _ n S) _ _ = _
  rw [wp_bnd]
  congr 1
  funext d S1
  exact wp_bnd
@[simp] theorem wp_opN {g : List D → Sto → Option (D × Sto)} {fs : List (E D)} : Wp (eOpN g fs n S) QD X = Wp (eAll fs n S) (fun ds S1 => Wp (lft (g ds S1)) QD X) X := wp_bnd
@[simp] theorem wp_call {m : List D → M D} {fs : List (E D)} : Wp (eCall m fs n S) QD X = Wp (eAll fs n S) (fun ds S1 => Wp (m ds S1) QD X) X := wp_bnd
@[simp] theorem wp_callK {m : List D → M D} {a k : Nat} {ix : List Nat} {fs ks : List (E D)} : Wp (eCallK m a k ix fs ks n S) QD X = Wp (eAll fs n S) (fun ds S1 => Wp (eAll ks n S1) (fun es S2 => if ds.length = a ∧ es.length = k then Wp (m (arr ix (ds ++ es)) S2) QD X else False) X) X := by
  show Wp (eBnd (eAll fs) _ n S) _ _ = _
  rw [wp_bnd]
  congr 1
  funext ds S1
  rw [wp_bnd]
  congr 1
  funext es S2
  split <;> rfl
@[simp] theorem wp_tru {d : D} : Wp (tru d n S) QB X = (match truD d S with
  | some b => QB b S
  | none => False) := by
  unfold tru
  cases truD d S <;> rfl
@[simp] theorem wp_eTru {f : E D} : Wp (eTru f n S) QB X = Wp (f n S) (fun d S1 => match truD d S1 with
  | some b => QB b S1
  | none => False) X := by
  show Wp (eBnd f tru n S) _ _ = _
  rw [wp_bnd]
  congr 1
  funext d S1
  exact wp_tru
@[simp] theorem wp_eBl {f : E D} : Wp (eBl f n S) QB X = Wp (f n S) (fun d S1 => match d with
  | .bl b => QB b S1
  | _ => False) X := by
  show Wp (eBnd f _ n S) _ _ = _
  rw [wp_bnd]
  congr 1
  funext d S1
  cases d <;> rfl
@[simp] theorem wp_notT {f : E Bool} : Wp (eNotT f n S) QB X = Wp (f n S) (fun b S1 => QB (!b) S1) X := wp_bnd
theorem wp_ite {b : Bool} {f g : E A} : Wp ((if b = true then f else g) n S) Q X = ((b = true → Wp (f n S) Q X) ∧ (b = false → Wp (g n S) Q X)) := by cases b <;> simp
@[simp] theorem wp_andT {f g : E Bool} : Wp (eAndT f g n S) QB X = Wp (f n S) (fun b S1 => (b = true → Wp (g n S1) QB X) ∧ (b = false → QB false S1)) X := by
  show Wp (eBnd f _ n S) _ _ = _
  rw [wp_bnd]
  congr 1
  funext b S1
  exact wp_ite
@[simp] theorem wp_orT {f g : E Bool} : Wp (eOrT f g n S) QB X = Wp (f n S) (fun b S1 => (b = true → QB true S1) ∧ (b = false → Wp (g n S1) QB X)) X := by
  show Wp (eBnd f _ n S) _ _ = _
  rw [wp_bnd]
  congr 1
  funext b S1
  exact wp_ite
@[simp] theorem wp_if {t : E Bool} {f g : E A} : Wp (eIf t f g n S) Q X = Wp (t n S) (fun b S1 => (b = true → Wp (f n S1) Q X) ∧ (b = false → Wp (g n S1) Q X)) X := by
  show Wp (eBnd t _ n S) _ _ = _
  rw [wp_bnd]
  congr 1
  funext b S1
  exact wp_ite
@[simp] theorem wp_eNot {f : E D} : Wp (eNot f n S) QD X = Wp (f n S) (fun d S1 => match truD d S1 with
  | some b => QD (.bl (!b)) S1
  | none => False) X := by
  show Wp (eBnd (eTru f) _ n S) _ _ = _
  rw [wp_bnd, wp_eTru]
  rfl
@[simp] theorem wp_eAnd {f g : E D} : Wp (eAnd f g n S) QD X = Wp (f n S) (fun d S1 => match truD d S1 with
  | some b => (b = true → Wp (g n S1) QD X) ∧ (b = false → QD d S1)
  | none => False) X := by
  show Wp (eBnd f _ n S) _ _ = _
  rw [wp_bnd]
  congr 1
  funext d S1
  rw [wp_bnd, wp_tru]
  cases truD d S1 with
  | none => rfl
  | some b => exact wp_ite
@[simp] theorem wp_eOr {f g : E D} : Wp (eOr f g n S) QD X = Wp (f n S) (fun d S1 => match truD d S1 with
  | some b => (b = true → QD d S1) ∧ (b = false → Wp (g n S1) QD X)
  | none => False) X := by
  show Wp (eBnd f _ n S) _ _ = _
  rw [wp_bnd]
  congr 1
  funext d S1
  rw [wp_bnd, wp_tru]
  cases truD d S1 with
  | none => rfl
  | some b => exact wp_ite
@[simp] theorem wp_chain {g g' : D → D → Sto → Option (D × Sto)} {f1 f2 f3 : E D} : Wp (eChain g g' f1 f2 f3 n S) QD X = Wp (f1 n S) (fun d1 S1 => Wp (f2 n S1) (fun d2 S2 => Wp (lft (g d1 d2 S2)) (fun k S3 => match k with
  | .bl b => (b = true → Wp (f3 n S3) (fun d3 S4 => Wp (lft (g' d2 d3 S4)) QD X) X) ∧ (b = false → QD (.bl false) S3)
  | _ => False) X) X) X := by
  show Wp (eBnd f1 _ n S) _ _ = _
  rw [wp_bnd]
  congr 1
  funext d1 S1
  rw [wp_bnd]
  congr 1
  funext d2 S2
  rw [wp_bnd]
  congr 1
  funext k S3
  cases k with
  | bl b =>
    cases b with
    | true =>
      show Wp (eBnd f3 _ n S3) _ _ = _
      rw [wp_bnd]
      simp
    | false => simp
  | _ => rfl
@[simp] theorem wp_slc {f : E D} {lo hi : Option (E D)} : Wp (eSlc f lo hi n S) QD X = Wp (f n S) (fun d S1 => Wp (ePart lo n S1) (fun l S2 => Wp (ePart hi n S2) (fun h S3 => Wp (lft (slcD d l h S3)) QD X) X) X) X := by
  show Wp (eBnd f _ n S) _ _ = _
  rw [wp_bnd]
  congr 1
  funext d S1
  rw [wp_bnd]
  congr 1
  funext l S2
  exact wp_bnd
@[simp] theorem wp_part0 {Q : Option Int → Sto → Prop} : Wp (ePart none n S) Q X = Q none S := rfl
@[simp] theorem wp_part {f : E D} {Q : Option Int → Sto → Prop} : Wp (ePart (some f) n S) Q X = Wp (f n S) (fun d S1 => match d with
  | .int i => Q (some i) S1
  | _ => False) X := by
  show Wp (eBnd f asInt n S) _ _ = _
  rw [wp_bnd]
  congr 1
  funext d S1
  cases d <;> rfl
@[simp] theorem wp_meth {t : Tn} {g : MPrim} {f : E D} {fs : List (E D)} : Wp (eMeth t g f fs n S) QD X = Wp (f n S) (fun d S1 => tyOf d S1 = some t ∧ Wp (eAll fs n S1) (fun ds S2 => Wp (lft (g d ds S2)) QD X) X) X := by
  show Wp (eBnd f _ n S) _ _ = _
  rw [wp_bnd]
  congr 1
  funext d S1
  rw [wp_bnd]
  unfold chkT
  by_cases c : tyOf d S1 = some t
  · rw [if_pos c, wp_ok, wp_bnd]; simp [c]
  · rw [if_neg c, wp_bad]; simp [c]
/-! ### statements -/
@[simp] theorem wp_sBnd {f : E B} {k : B → E Out} : Wp (sBnd f k n S) QO X = Wp (f n S) (fun a S1 => Wp (k a n S1) QO X) (fun c fs S1 => QO (.er c fs n) S1) := by
  unfold sBnd
  cases f n S <;> rfl
@[simp] theorem wp_sNil : Wp (sNil n S) QO X = QO (.nx n) S := rfl
@[simp] theorem wp_sSeq {f g : E Out} : Wp (sSeq f g n S) QO X = Wp (f n S) (fun o S1 => Wp (sThen o g S1) QO X) X := wp_rbind
@[simp] theorem then_nx {g : E Out} : sThen (.nx n) g S = g n S := rfl
@[simp] theorem then_rt {d : D} {g : E Out} : sThen (.rt d) g S = .ok (.rt d) S := rfl
@[simp] theorem then_bk {g : E Out} : sThen (.bk n) g S = .ok (.bk n) S := rfl
@[simp] theorem then_ct {g : E Out} : sThen (.ct n) g S = .ok (.ct n) S := rfl
@[simp] theorem then_er {c : Nat} {fs : List D} {g : E Out} : sThen (.er c fs n) g S = .ok (.er c fs n) S := rfl
@[simp] theorem wp_sIf {t : E Bool} {f g : E Out} : Wp (sIf t f g n S) QO X = Wp (t n S) (fun b S1 => (b = true → Wp (f n S1) QO X) ∧ (b = false → Wp (g n S1) QO X)) (fun c fs S1 => QO (.er c fs n) S1) := by
  show Wp (sBnd t _ n S) _ _ = _
  rw [wp_sBnd]
  congr 1
  funext b S1
  exact wp_ite
@[simp] theorem wp_sExp {f : E D} : Wp (sExp f n S) QO X = Wp (f n S) (fun _ S1 => QO (.nx n) S1) (fun c fs S1 => QO (.er c fs n) S1) := wp_sBnd
@[simp] theorem wp_sRet {f : E D} : Wp (sRet f n S) QO X = Wp (f n S) (fun d S1 => QO (.rt d) S1) (fun c fs S1 => QO (.er c fs n) S1) := wp_sBnd
@[simp] theorem wp_sRetN : Wp (sRetN n S) QO X = QO (.rt .non) S := rfl
@[simp] theorem wp_sBrk : Wp (sBrk n S) QO X = QO (.bk n) S := rfl
@[simp] theorem wp_sCnt : Wp (sCnt n S) QO X = QO (.ct n) S := rfl
@[simp] theorem wp_sAsgn {f : E D} {g : G} : Wp (sAsgn f g n S) QO X = Wp (f n S) (fun d S1 => Wp (g d n S1) (fun n' S2 => QO (.nx n') S2) (fun c fs S2 => QO (.er c fs n) S2)) (fun c fs S1 => QO (.er c fs n) S1) := by
  show Wp (sBnd f _ n S) _ _ = _
  rw [wp_sBnd]
  congr 1
  funext d S1
  cases g d n S1 <;> rfl
@[simp] theorem wp_sPar {i j : Nat} {f1 f2 : E D} : Wp (sPar i j f1 f2 n S) QO X = Wp (f1 n S) (fun d1 S1 => Wp (f2 n S1) (fun d2 S2 => QO (.nx ((n.set i (some d1)).set j (some d2))) S2) (fun c fs S2 => QO (.er c fs n) S2)) (fun c fs S1 => QO (.er c fs n) S1) := by
  show Wp (sBnd f1 _ n S) _ _ = _
  rw [wp_sBnd]
  congr 1
  funext d S1
  exact wp_sBnd
variable {QN : En → Sto → Prop}
@[simp] theorem wp_gNam {i : Nat} {d : D} : Wp (gNam i d n S) QN X = QN (n.set i (some d)) S := rfl
@[simp] theorem wp_gAll0 : Wp (gAll [] [] n S) QN X = QN n S := rfl
@[simp] theorem wp_gAll {g : G} {gs : List G} {d : D} {ds : List D} : Wp (gAll (g :: gs) (d :: ds) n S) QN X = Wp (g d n S) (fun n' S' => Wp (gAll gs ds n' S') QN X) X := wp_rbind
@[simp] theorem wp_gTupl {gs : List G} {ds : List D} : Wp (gTupl gs (.tup ds) n S) QN X = (ds.length = gs.length ∧ Wp (gAll gs ds n S) QN nX) := by
  show Wp (if ds.length = gs.length then nox (gAll gs ds n S) else .bad) QN X = _
  by_cases c : ds.length = gs.length
  · rw [if_pos c, wp_nox]; simp [c]
  · rw [if_neg c]; simp [c]
@[simp] theorem wp_gSubs {fo fi : E D} {d : D} : Wp (gSubs fo fi d n S) QN X = Wp (fo n S) (fun o S1 => Wp (fi n S1) (fun i S2 => match putD o i d S2 with
  | some S3 => QN n S3
  | none => False) X) X := by
  unfold gSubs
  rw [wp_rbind]
  congr 1
  funext o S1
  rw [wp_rbind]
  congr 1
  funext i S2
  cases putD o i d S2 <;> rfl
@[simp] theorem wp_outD {r : Res Out} : Wp (outD r) QD X = Wp r (fun o S1 => match o with
  | .nx _ => QD .non S1
  | .rt d => QD d S1
  | .er c fs _ => X c fs S1
  | _ => False) nX := by
  cases r with
  | ok o S => cases o <;> rfl
  | exc c fs S => rfl
  | bad => rfl
@[simp] theorem wp_runD {a b : Nat} {F : E Out} {ds : List D} : Wp (runD a b F ds S) QD X = (ds.length = a ∧ Wp (F (ds.map some ++ List.replicate (b - ds.length) none) S) (fun o S1 => match o with
  | .nx _ => QD .non S1
  | .rt d => QD d S1
  | .er c fs _ => X c fs S1
  | _ => False) nX) := by
  unfold runD
  by_cases h : ds.length = a
  · rw [if_pos h, wp_outD]; simp [h]
  · rw [if_neg h]; simp [h]
/-! ### primitives -/
@[simp] theorem cmp_lt : cmpX .Lt = ltX := rfl
@[simp] theorem cmp_le : cmpX .LtE = leD := rfl
@[simp] theorem cmp_gt : cmpX .Gt = gtD := rfl
@[simp] theorem cmp_ge : cmpX .GtE = geD := rfl
@[simp] theorem cmp_eq : cmpX .Eq = eqD := rfl
@[simp] theorem cmp_ne : cmpX .NotEq = neD := rfl
@[simp] theorem cmp_is : cmpX .Is = isD := rfl
@[simp] theorem cmp_isn : cmpX .IsNot = isntD := rfl
@[simp] theorem cmp_in : cmpX .In = inD := rfl
@[simp] theorem cmp_nin : cmpX .NotIn = notInD := rfl
variable {a b : Int}
@[simp] theorem add_ii : addD (.int a) (.int b) S = some (.int (a + b), S) := rfl
@[simp] theorem sub_ii : subD (.int a) (.int b) S = some (.int (a - b), S) := rfl
@[simp] theorem neg_i : negD (.int a) S = some (.int (-a), S) := rfl
@[simp] theorem lt_ii : ltX (.int a) (.int b) S = some (.bl (decide (a < b)), S) := rfl
@[simp] theorem le_ii : leD (.int a) (.int b) S = some (.bl (decide (a ≤ b)), S) := rfl
@[simp] theorem gt_ii : gtD (.int a) (.int b) S = some (.bl (decide (b < a)), S) := rfl
@[simp] theorem ge_ii : geD (.int a) (.int b) S = some (.bl (decide (b ≤ a)), S) := rfl
@[simp] theorem eq_ii : eqD (.int a) (.int b) S = some (.bl (decide (a = b)), S) := by
  show some (D.bl (PyData.eqv (.int a) (.int b)), S) = _
  congr 1
@[simp] theorem ne_ii : neD (.int a) (.int b) S = some (.bl (!decide (a = b)), S) := rfl
@[simp] theorem eq_bb {a b : Bool} : eqD (.bl a) (.bl b) S = some (.bl (a == b), S) := rfl
@[simp] theorem int_i : intD [.int a] S = some (.int a, S) := rfl
@[simp] theorem abs_i : absD [.int a] S = some (.int (if a < 0 then -a else a), S) := rfl
@[simp] theorem tru_b {b : Bool} : truD (.bl b) S = some b := rfl
@[simp] theorem tru_i {b : Int} : truD (.int b) S = some (b != 0) := rfl
@[simp] theorem tru_t {xs : List D} : truD (.tup xs) S = some (!xs.isEmpty) := rfl
@[simp] theorem tru_l {l : Nat} : truD (.loc l) S = (match S[l]? with
  | some (.lst xs) => some (!xs.isEmpty)
  | some (.dct xs) => some (!xs.isEmpty)
  | _ => none) := rfl
@[simp] theorem is_nn : isD .non .non S = some (.bl true, S) := rfl
@[simp] theorem is_in : isD (.int a) .non S = some (.bl false, S) := rfl
@[simp] theorem is_tn {xs : List D} : isD (.tup xs) .non S = some (.bl false, S) := rfl
@[simp] theorem is_ln {l : Nat} : isD (.loc l) .non S = some (.bl false, S) := rfl
@[simp] theorem is_bn {b : Bool} : isD (.bl b) .non S = some (.bl false, S) := rfl
@[simp] theorem is_sn {x : Str} : isD (.str x) .non S = some (.bl false, S) := rfl
@[simp] theorem isn_nn : isntD .non .non S = some (.bl false, S) := rfl
@[simp] theorem isn_in : isntD (.int a) .non S = some (.bl true, S) := rfl
@[simp] theorem isn_tn {xs : List D} : isntD (.tup xs) .non S = some (.bl true, S) := rfl
@[simp] theorem wp_mkLst {ds : List D} : Wp (lft (mkLst ds S)) QD X = (ds.length ≤ LINE ∧ QD (.loc S.length) (S ++ [.lst ds])) := by
  unfold mkLst
  by_cases c : ds.length ≤ LINE <;> simp [c]
@[simp] theorem wp_mkTup {ds : List D} : Wp (lft (mkTup ds S)) QD X = (ds.length ≤ LINE ∧ QD (.tup ds) S) := by
  unfold mkTup
  by_cases c : ds.length ≤ LINE <;> simp [c]
@[simp] theorem wp_mul : Wp (lft (mulD (.int a) (.int b) S)) QD X = (mulOk a b = true ∧ QD (.int (a * b)) S) := by
  show Wp (lft (if mulOk a b = true then some (D.int (a * b), S) else none)) _ _ = _
  by_cases c : mulOk a b = true <;> simp [c]
@[simp] theorem wp_fdiv : Wp (lft (fdivD (.int a) (.int b) S)) QD X = (divOk b = true ∧ QD (.int (a / b)) S) := by
  show Wp (lft (if divOk b = true then some (D.int (a / b), S) else none)) _ _ = _
  by_cases c : divOk b = true <;> simp [c]
@[simp] theorem wp_mod : Wp (lft (modD (.int a) (.int b) S)) QD X = (0 < b ∧ QD (.int (a % b)) S) := by
  show Wp (lft (if 0 < b then some (D.int (a % b), S) else none)) _ _ = _
  by_cases c : 0 < b <;> simp [c]
@[simp] theorem wp_pow : Wp (lft (powD (.int a) (.int b) S)) QD X = ((0 ≤ b ∧ b ≤ 1000000 ∧ a.natAbs < 2 ^ 64) ∧ QD (.int (a ^ b.toNat)) S) := by
  show Wp (lft (if 0 ≤ b ∧ b ≤ 1000000 ∧ a.natAbs < 2 ^ 64 then some (D.int (a ^ b.toNat), S) else none)) _ _ = _
  by_cases c : 0 ≤ b ∧ b ≤ 1000000 ∧ a.natAbs < 2 ^ 64 <;> simp only [c, if_true, if_false, wp_some, wp_none, true_and, false_and]
@[simp] theorem wp_divmod : Wp (lft (divmodD [.int a, .int b] S)) QD X = ((0 < b ∧ b < 1073741824) ∧ QD (.tup [.int (a / b), .int (a % b)]) S) := by
  show Wp (lft (if (decide (0 < b) && decide (b.toNat.log2 < 30)) = true then some (D.tup [.int (a / b), .int (a % b)], S) else none)) _ _ = _
  have e : (decide (0 < b) && decide (b.toNat.log2 < 30)) = decide (0 < b ∧ b < 1073741824) := by
    by_cases h : 0 < b
    · have h3 : b.toNat.log2 < 30 ↔ b.toNat < 2 ^ 30 := Nat.log2_lt (by omega)
      have h4 : b.toNat < 2 ^ 30 ↔ b < 1073741824 := by omega
      simp [h, h3, h4]
    · simp [h]
  rw [e]
  by_cases c : 0 < b ∧ b < 1073741824
  · rw [if_pos (decide_eq_true c), wp_some]; simp [c]
  · rw [if_neg (by simpa using c), wp_none]; simp only [c, false_and]
theorem mulOk_l (h : a.natAbs < 2 ^ 64) : mulOk a b = true := by unfold mulOk; simp only [h, decide_true, Bool.true_or]
theorem mulOk_r (h : b.natAbs < 2 ^ 64) : mulOk a b = true := by unfold mulOk; simp only [h, decide_true, Bool.true_or, Bool.or_true]
theorem divOk_of (h : 0 < b) (h2 : b.natAbs < 2 ^ 64) : divOk b = true := by
  unfold divOk
  rw [decide_eq_true h, decide_eq_true (Nat.lt_trans h2 (Nat.pow_lt_pow_right (by decide) (by decide)))]; rfl
/-! ### the store -/
variable {l : Nat} {xs ys : List D} {y : D} {kvs : List (Key × D)}
theorem lstAt_eq (h : S[l]? = some (.lst xs)) : lstAt S l = some xs := by unfold lstAt; rw [h]
theorem idx_lst (h : S[l]? = some (.lst xs)) (h2 : atI xs a = some y) : idxD (.loc l) (.int a) S = some (y, S) := by
  show idxLoc l (.int a) S = _
  unfold idxLoc
  rw [h]
  show (atI xs a).map (fun d => (d, S)) = _
  rw [h2]; rfl
theorem idx_tup (h2 : atI xs a = some y) : idxD (.tup xs) (.int a) S = some (y, S) := by
  show (atI xs a).map (fun d => (d, S)) = _
  rw [h2]; rfl
theorem idx_scr (h2 : atI xs a = some y) : idxD (.scr xs) (.int a) S = some (y, S) := by
  show (atI xs a).map (fun d => (d, S)) = _
  rw [h2]; rfl
theorem atI_neg1 (h : xs.getLast? = some y) : atI xs (-1) = some y := by
  have hl : xs ≠ [] := fun z => by rw [z] at h; cases h
  have hp := List.length_pos_iff.mpr hl
  unfold atI ixN
  rw [if_neg (by decide), if_pos (by omega)]
  show xs[(-1 + (xs.length : Int)).toNat]? = some y
  rw [← h, List.getLast?_eq_getElem?]
  congr 1
  omega
@[simp] theorem ty_l : tyOf (.loc l) S = (match S[l]? with
  | some (.lst _) => some .list
  | some (.dct _) => some .dict
  | some (.dctZ _) => some .dict
  | _ => none) := rfl
theorem app_lst (h : S[l]? = some (.lst xs)) : Wp (lft (appendD (.loc l) [y] S)) QD X = (xs.length < LINE ∧ QD .non (S.set l (.lst (xs ++ [y])))) := by
  show Wp (lft (match lstAt S l with
    | some xs => if xs.length < LINE then some (D.non, S.set l (.lst (xs ++ [y]))) else none
    | none => none)) _ _ = _
  rw [lstAt_eq h]
  show Wp (lft (if xs.length < LINE then some (D.non, S.set l (.lst (xs ++ [y]))) else none)) _ _ = _
  by_cases c : xs.length < LINE <;> simp [c]
theorem add_lst {k : Nat} (h : S[l]? = some (.lst xs)) (h2 : S[k]? = some (.lst ys)) : addD (.loc l) (.loc k) S = mkLst (xs ++ ys) S := by
  show (match lstAt S l, lstAt S k with
    | some xs, some ys => mkLst (xs ++ ys) S
    | _, _ => none) = _
  rw [lstAt_eq h, lstAt_eq h2]
@[simp] theorem add_tt : addD (.tup xs) (.tup ys) S = mkTup (xs ++ ys) S := rfl
theorem len_lst (h : S[l]? = some (.lst xs)) : lenD [.loc l] S = some (.int xs.length, S) := by
  have : lenOf (.loc l) S = some xs.length := by unfold lenOf; simp [h]
  unfold lenD
  simp only [this, Option.map_some]
@[simp] theorem len_tup : lenD [.tup xs] S = some (.int xs.length, S) := rfl
@[simp] theorem len_scr : lenD [.scr xs] S = some (.int xs.length, S) := rfl
theorem put_lst {i : Nat} (h : S[l]? = some (.lst xs)) (hi : i < xs.length) : putD (.loc l) (.int i) y S = some (S.set l (.lst (xs.set i y))) := by
  unfold putD
  simp only [h]
  show (ixN xs.length (i : Int)).map (fun j => S.set l (.lst (xs.set j y))) = _
  have : ixN xs.length (i : Int) = some i := by
    unfold ixN
    rw [if_pos (by omega), if_pos (by omega)]; simp
  rw [this]; rfl
end
/-- what stood still stands -/
abbrev Ext (S S' : Sto) : Prop := S <+: S'
section
variable {S S' S'' : Sto} {l : Nat} {o o' : O}
theorem Ext.rfl' : Ext S S := List.prefix_refl S
theorem Ext.app {G : Sto} (h : Ext S S') : Ext S (S' ++ G) := h.trans (List.prefix_append S' G)
theorem Ext.get (h : Ext S S') (e : S[l]? = some o) : S'[l]? = some o := by
  obtain ⟨r, rfl⟩ := h
  rw [List.getElem?_append_left (List.getElem?_eq_some_iff.mp e).1]; exact e
theorem Ext.le (h : Ext S S') : S.length ≤ S'.length := h.length_le
theorem Ext.set (h : Ext S S') (hk : S.length ≤ l) : Ext S (S'.set l o) := by
  obtain ⟨r, rfl⟩ := h
  rw [List.set_append_right _ _ hk]
  exact List.prefix_append _ _
theorem get_new : (S ++ [o])[S.length]? = some o := by simp
theorem get_set (h : S[l]? = some o') : (S.set l o)[l]? = some o := List.getElem?_set_self (List.getElem?_eq_some_iff.mp h).1
theorem get_ne {k : Nat} (h : S[k]? = some o') (n : l ≠ k) : (S.set l o)[k]? = some o' := by rw [List.getElem?_set_ne n]; exact h
theorem get_lt (h : S[l]? = some o) : l < S.length := (List.getElem?_eq_some_iff.mp h).1
theorem set_len : (S.set l o).length = S.length := List.length_set ..
end
section
variable {A : Type} {Q : Out → Sto → Prop} {QL : List D → Sto → Prop} {X : PX} {S : Sto} {n : En} {it : Itn} {g : G} {body : E Out}
/-- what a loop's turn comes to -/
def turnQ (I : En → Sto → Prop) (Q : Out → Sto → Prop) : Out → Sto → Prop := fun o S => match o with
  | .nx n => I n S
  | .ct n => I n S
  | .bk n => Q (.nx n) S
  | o => Q o S
@[simp] theorem turn_nx {I : En → Sto → Prop} : turnQ I Q (.nx n) S = I n S := rfl
@[simp] theorem turn_ct {I : En → Sto → Prop} : turnQ I Q (.ct n) S = I n S := rfl
@[simp] theorem turn_bk {I : En → Sto → Prop} : turnQ I Q (.bk n) S = Q (.nx n) S := rfl
@[simp] theorem turn_rt {I : En → Sto → Prop} {d : D} : turnQ I Q (.rt d) S = Q (.rt d) S := rfl
@[simp] theorem turn_er {I : En → Sto → Prop} {c : Nat} {fs : List D} : turnQ I Q (.er c fs n) S = Q (.er c fs n) S := rfl
theorem wp_loop (k : Nat) (x : Nat → D) (I : Nat → En → Sto → Prop) (h0 : I 0 n S) (hk : k < FUEL) (hnext : ∀ i n S, i < k → I i n S → it.next i S = some (some (x i))) (hend : ∀ n S, I k n S → it.next k S = some none)
    (hs : ∀ i n S, i < k → I i n S → Wp (g (x i) n S) (fun n1 S1 => Wp (body n1 S1) (turnQ (I (i + 1)) Q) X) (fun c fs S1 => Q (.er c fs n) S1)) (he : ∀ n S, I k n S → Q (.nx n) S) : Wp (loopF it g body FUEL 0 n S) Q X := by
  have core : ∀ j i m n S, i + j = k → j < m → I i n S → Wp (loopF it g body m i n S) Q X := by
    intro j
    induction j with
    | zero =>
      intro i m n S e hm hI
      obtain ⟨m, rfl⟩ : ∃ m', m = m' + 1 := ⟨m - 1, by omega⟩
      obtain rfl : i = k := by omega
      unfold loopF
      rw [hend n S hI]
      exact he n S hI
    | succ j ih =>
      intro i m n S e hm hI
      obtain ⟨m, rfl⟩ : ∃ m', m = m' + 1 := ⟨m - 1, by omega⟩
      unfold loopF
      rw [hnext i n S (by omega) hI]
      have q := hs i n S (by omega) hI
      dsimp only
      cases eg : g (x i) n S with
      | bad => rw [eg] at q; exact q
      | exc c fs S1 => rw [eg] at q; exact q
      | ok n1 S1 =>
        rw [eg] at q
        dsimp only
        rw [wp_rbind]
        refine Wp.q (show Wp (body n1 S1) _ _ from q) fun o S2 ho => ?_
        cases o with
        | nx n2 => exact ih (i + 1) m n2 S2 (by omega) (by omega) ho
        | ct n2 => exact ih (i + 1) m n2 S2 (by omega) (by omega) ho
        | bk n2 => exact ho
        | rt d => exact ho
        | er c fs n2 => exact ho
  exact core k 0 FUEL n S (by omega) hk h0
theorem wp_lc {t : E Bool} {elt : E D} (k : Nat) (x : Nat → D) (I : Nat → List D → Sto → Prop) (h0 : I 0 [] S) (hk : k < FUEL) (hnext : ∀ i a S, i < k → I i a S → it.next i S = some (some (x i))) (hend : ∀ a S, I k a S → it.next k S = some none)
    (hs : ∀ i a S, i < k → I i a S → Wp (g (x i) n S) (fun n1 S1 => Wp (t n1 S1) (fun b S2 => (b = true → Wp (elt n1 S2) (fun y S3 => a.length < LINE ∧ I (i + 1) (a ++ [y]) S3) X) ∧ (b = false → I (i + 1) a S2)) X) X) (he : ∀ a S, I k a S → QL a S) : Wp (lcF it g t elt n FUEL 0 [] S) QL X := by
  have core : ∀ j i m a S, i + j = k → j < m → I i a S → Wp (lcF it g t elt n m i a S) QL X := by
    intro j
    induction j with
    | zero =>
      intro i m a S e hm hI
      obtain ⟨m, rfl⟩ : ∃ m', m = m' + 1 := ⟨m - 1, by omega⟩
      obtain rfl : i = k := by omega
      unfold lcF
      rw [hend a S hI]
      exact he a S hI
    | succ j ih =>
      intro i m a S e hm hI
      obtain ⟨m, rfl⟩ : ∃ m', m = m' + 1 := ⟨m - 1, by omega⟩
      unfold lcF
      rw [hnext i a S (by omega) hI]
      dsimp only
      rw [wp_rbind]
      refine (hs i a S (by omega) hI).q fun n1 S1 h1 => ?_
      rw [wp_rbind]
      refine h1.q fun b S2 h2 => ?_
      cases b with
      | false => exact ih (i + 1) m a S2 (by omega) (by omega) (h2.2 rfl)
      | true =>
        show Wp (rbind (elt n1 S2) _) _ _
        rw [wp_rbind]
        refine (h2.1 rfl).q fun y S3 h3 => ?_
        rw [if_pos h3.1]
        exact ih (i + 1) m _ S3 (by omega) (by omega) h3.2
  exact core k 0 FUEL [] S (by omega) hk h0
@[simp] theorem wp_sFor {f : E Itn} : Wp (sFor f g body n S) Q X = Wp (f n S) (fun it S1 => Wp (loopF it g body FUEL 0 n S1) Q X) (fun c fs S1 => Q (.er c fs n) S1) := wp_sBnd
@[simp] theorem wp_eLc {f : E Itn} {vs : List Nat} {t : E Bool} {elt : E D} {QD : D → Sto → Prop} : Wp (eLc f vs g t elt n S) QD X = Wp (f n S) (fun it S1 => Wp (lcF it g t elt (wipeD n vs) FUEL 0 [] S1) (fun ys S2 => QD (.loc S2.length) (S2 ++ [.lst ys])) nX) X := by
  show Wp (eBnd f _ n S) _ _ = _
  rw [wp_bnd]
  congr 1
  funext it S1
  rw [wp_rbind, wp_nox]
  rfl
@[simp] theorem wp_tTru {Q : Bool → Sto → Prop} : Wp (tTru n S) Q X = Q true S := rfl
variable {QI : Itn → Sto → Prop}
@[simp] theorem wp_iVal {f : E D} : Wp (iVal f n S) QI X = Wp (f n S) (fun d S1 => Wp (valIt d n S1) QI X) X := wp_bnd
@[simp] theorem wp_iRng {k : List D → E Itn} {fs : List (E D)} : Wp (iRng k fs n S) QI X = Wp (eAll fs n S) (fun ds S1 => Wp (k ds n S1) QI X) X := wp_bnd
@[simp] theorem wp_iRevd {f : E D} : Wp (iRevd f n S) QI X = Wp (f n S) (fun d S1 => Wp (revIt d n S1) QI X) X := wp_bnd
@[simp] theorem wp_iEnum {f : E D} : Wp (iEnum f n S) QI X = Wp (f n S) (fun d S1 => Wp (enuIt d n S1) QI X) X := wp_bnd
@[simp] theorem wp_iZip {f h : E D} : Wp (iZip f h n S) QI X = Wp (f n S) (fun d S1 => Wp (h n S1) (fun d' S2 => Wp (zipIt d d' n S2) QI X) X) X := by
  show Wp (eBnd f _ n S) _ _ = _
  rw [wp_bnd]
  congr 1
  funext d S1
  exact wp_bnd
@[simp] theorem wp_rng1 {j : Int} : Wp (rng1 [.int j] n S) QI X = ((-(2 ^ 62) ≤ j ∧ j < 2 ^ 62) ∧ QI (.rng 0 1 j.toNat) S) := by
  show Wp (if rOk j = true then .ok (.rng 0 1 j.toNat) S else .bad) QI X = _
  rw [rOk_eq]
  by_cases c : -(2 ^ 62) ≤ j ∧ j < 2 ^ 62
  · rw [if_pos (decide_eq_true c), wp_ok]; simp only [c, true_and]
  · rw [if_neg (by simpa using c), wp_bad]; simp only [c, false_and]
@[simp] theorem wp_rng2 {i j : Int} : Wp (rng2 [.int i, .int j] n S) QI X = ((-(2 ^ 62) ≤ i ∧ i < 2 ^ 62 ∧ -(2 ^ 62) ≤ j ∧ j < 2 ^ 62) ∧ QI (.rng i 1 (j - i).toNat) S) := by
  show Wp (if (rOk i && rOk j) = true then .ok (.rng i 1 (j - i).toNat) S else .bad) QI X = _
  rw [rOk_eq, rOk_eq]
  by_cases c : (-(2 ^ 62) ≤ i ∧ i < 2 ^ 62) ∧ -(2 ^ 62) ≤ j ∧ j < 2 ^ 62
  · rw [if_pos (by simpa using c), wp_ok]
    have c' : -(2 ^ 62) ≤ i ∧ i < 2 ^ 62 ∧ -(2 ^ 62) ≤ j ∧ j < 2 ^ 62 := ⟨c.1.1, c.1.2, c.2⟩
    simp only [c', true_and]
  · rw [if_neg (by simpa using c), wp_bad]
    have c' : ¬ (-(2 ^ 62) ≤ i ∧ i < 2 ^ 62 ∧ -(2 ^ 62) ≤ j ∧ j < 2 ^ 62) := fun z => c ⟨⟨z.1, z.2.1⟩, z.2.2⟩
    simp only [c', false_and]
variable {l : Nat} {xs ys : List D}
theorem src_lst (h : S[l]? = some (.lst xs)) : srcLen (.loc l) S = some (.dyn l, xs.length) := by
  show (lstAt S l).map _ = _
  rw [lstAt_eq h]; rfl
theorem wp_val (h : S[l]? = some (.lst xs)) : Wp (valIt (.loc l) n S) QI X = QI (.one (.dyn l)) S := by
  have e : keyIt (.loc l) S = none := by unfold keyIt; simp only [h]
  unfold valIt
  simp only [e, src_lst h, wp_ok]
/-- a dict is frozen as soon as it is walked -/
theorem wp_valK {kvs : List (Key × D)} (h : S[l]? = some (.dct kvs)) : Wp (valIt (.loc l) n S) QI X = QI (.keys l) (S.set l (.dctZ kvs)) := by
  have e : keyIt (.loc l) S = some (.keys l, S.set l (.dctZ kvs)) := by unfold keyIt; simp only [h]
  unfold valIt
  simp only [e, wp_ok]
theorem wp_valZ {kvs : List (Key × D)} (h : S[l]? = some (.dctZ kvs)) : Wp (valIt (.loc l) n S) QI X = QI (.keys l) S := by
  have e : keyIt (.loc l) S = some (.keys l, S) := by unfold keyIt; simp only [h]
  unfold valIt
  simp only [e, wp_ok]
theorem next_keys {kvs : List (Key × D)} {i : Nat} (h : S[l]? = some (.dctZ kvs)) : (Itn.keys l).next i S = some (kvs.map fun kv => kD kv.1)[i]? := by
  show (match S[l]? with | some (.dctZ kvs) => some ((kvs[i]?).map fun (kv : Key × D) => kD kv.1) | _ => none) = _
  rw [h]
  simp
@[simp] theorem wp_valT : Wp (valIt (.tup xs) n S) QI X = QI (.one (.fix true xs)) S := rfl
@[simp] theorem wp_valS : Wp (valIt (.scr xs) n S) QI X = QI (.one (.fix false xs)) S := rfl
theorem wp_rev (h : S[l]? = some (.lst xs)) : Wp (revIt (.loc l) n S) QI X = QI (.rev (.dyn l) xs.length) S := by
  unfold revIt
  simp only [src_lst h, wp_ok]
theorem next_rng {lo c : Int} {k i : Nat} : (Itn.rng lo c k).next i S = if i < k then some (some (.int (lo + (i : Nat) * c))) else some none := rfl
theorem next_dyn {i : Nat} (h : S[l]? = some (.lst xs)) : (Itn.one (.dyn l)).next i S = some xs[i]? := by
  show (lstAt S l).map _ = _
  rw [lstAt_eq h]; rfl
theorem next_fix {i : Nat} {b : Bool} : (Itn.one (.fix b xs)).next i S = some xs[i]? := rfl
theorem next_rev {i : Nat} (h : S[l]? = some (.lst xs)) : (Itn.rev (.dyn l) xs.length).next i S = some (if i < xs.length then xs[xs.length - 1 - i]? else none) := by
  show (if i < xs.length then (match lstAt S l with
    | some ys => (match ys[xs.length - 1 - i]? with
      | some d => some (some d)
      | none => none)
    | none => none) else some none) = _
  rw [lstAt_eq h]
  by_cases c : i < xs.length
  · rw [if_pos c, if_pos c]
    have : xs.length - 1 - i < xs.length := by omega
    simp [List.getElem?_eq_getElem this]
  · rw [if_neg c, if_neg c]
/-- over a range, the body by the int -/
theorem wp_rngLoop {lo : Int} {k : Nat} (I : Nat → En → Sto → Prop) (h0 : I 0 n S) (hk : k < FUEL) (hs : ∀ i n S, i < k → I i n S → Wp (g (.int (lo + (i : Nat))) n S) (fun n1 S1 => Wp (body n1 S1) (turnQ (I (i + 1)) Q) X) (fun c fs S1 => Q (.er c fs n) S1))
    (he : ∀ n S, I k n S → Q (.nx n) S) : Wp (loopF (.rng lo 1 k) g body FUEL 0 n S) Q X :=
  wp_loop k (fun i => .int (lo + (i : Nat))) I h0 hk (fun i n S hi _ => by rw [next_rng, if_pos hi, Int.mul_one]) (fun n S _ => by rw [next_rng, if_neg (Nat.lt_irrefl _)]) hs he
theorem wp_rngLc {lo : Int} {k : Nat} {t : E Bool} {elt : E D} (I : Nat → List D → Sto → Prop) (h0 : I 0 [] S) (hk : k < FUEL) (hs : ∀ i a S, i < k → I i a S → Wp (g (.int (lo + (i : Nat))) n S) (fun n1 S1 => Wp (t n1 S1) (fun b S2 => (b = true → Wp (elt n1 S2) (fun y S3 => a.length < LINE ∧ I (i + 1) (a ++ [y]) S3) X) ∧ (b = false → I (i + 1) a S2)) X) X)
    (he : ∀ a S, I k a S → QL a S) : Wp (lcF (.rng lo 1 k) g t elt n FUEL 0 [] S) QL X :=
  wp_lc k (fun i => .int (lo + (i : Nat))) I h0 hk (fun i n S hi _ => by rw [next_rng, if_pos hi, Int.mul_one]) (fun n S _ => by rw [next_rng, if_neg (Nat.lt_irrefl _)]) hs he
theorem fuel_of {k : Nat} (h : k < 100000000) : k < FUEL := by rw [FUEL_eq]; omega
theorem line_of {k : Nat} (h : k < 16777216) : k < LINE := by unfold LINE; omega
theorem line_le {k : Nat} (h : k < 16777216) : k ≤ LINE := by unfold LINE; omega
theorem take_snoc {A B : Type} {xs : List A} {f : A → B} {i : Nat} {a : A} (h : xs[i]? = some a) : (xs.take i).map f ++ [f a] = (xs.take (i + 1)).map f := by
  rw [List.take_add_one, h, List.map_append]; rfl
/-- over the items of a list that stays, of a tuple; backwards -/
theorem wp_lstLoop {l : Nat} {xs : List D} (I : Nat → En → Sto → Prop) (h0 : I 0 n S) (hk : xs.length < FUEL) (hst : ∀ i n S, I i n S → S[l]? = some (.lst xs))
    (hs : ∀ i x n S, xs[i]? = some x → I i n S → Wp (g x n S) (fun n1 S1 => Wp (body n1 S1) (turnQ (I (i + 1)) Q) X) (fun c fs S1 => Q (.er c fs n) S1)) (he : ∀ n S, I xs.length n S → Q (.nx n) S) : Wp (loopF (.one (.dyn l)) g body FUEL 0 n S) Q X :=
  wp_loop xs.length (fun i => xs[i]?.getD .non) I h0 hk (fun i n S hi hI => by rw [next_dyn (hst i n S hI), List.getElem?_eq_getElem hi]; rfl) (fun n S hI => by rw [next_dyn (hst _ n S hI), List.getElem?_eq_none (Nat.le_refl _)])
    (fun i n S hi hI => by rw [List.getElem?_eq_getElem hi]; exact hs i _ n S (List.getElem?_eq_getElem hi) hI) he
theorem wp_fixLoop {b : Bool} {xs : List D} (I : Nat → En → Sto → Prop) (h0 : I 0 n S) (hk : xs.length < FUEL)
    (hs : ∀ i x n S, xs[i]? = some x → I i n S → Wp (g x n S) (fun n1 S1 => Wp (body n1 S1) (turnQ (I (i + 1)) Q) X) (fun c fs S1 => Q (.er c fs n) S1)) (he : ∀ n S, I xs.length n S → Q (.nx n) S) : Wp (loopF (.one (.fix b xs)) g body FUEL 0 n S) Q X :=
  wp_loop xs.length (fun i => xs[i]?.getD .non) I h0 hk (fun i n S hi hI => by rw [next_fix, List.getElem?_eq_getElem hi]; rfl) (fun n S hI => by rw [next_fix, List.getElem?_eq_none (Nat.le_refl _)])
    (fun i n S hi hI => by rw [List.getElem?_eq_getElem hi]; exact hs i _ n S (List.getElem?_eq_getElem hi) hI) he
theorem rev_get {A : Type} {xs : List A} {i : Nat} (h : i < xs.length) : xs[xs.length - 1 - i]? = xs.reverse[i]? := by
  rw [List.getElem?_reverse h]
theorem wp_revLoop {l : Nat} {xs : List D} (I : Nat → En → Sto → Prop) (h0 : I 0 n S) (hk : xs.length < FUEL) (hst : ∀ i n S, I i n S → S[l]? = some (.lst xs))
    (hs : ∀ i x n S, xs.reverse[i]? = some x → I i n S → Wp (g x n S) (fun n1 S1 => Wp (body n1 S1) (turnQ (I (i + 1)) Q) X) (fun c fs S1 => Q (.er c fs n) S1)) (he : ∀ n S, I xs.length n S → Q (.nx n) S) : Wp (loopF (.rev (.dyn l) xs.length) g body FUEL 0 n S) Q X := by
  have hr : ∀ i, i < xs.length → xs.reverse[i]? = some (xs.reverse[i]?.getD .non) := fun i hi => by rw [List.getElem?_eq_getElem (by simpa using hi)]; rfl
  refine wp_loop xs.length (fun i => xs.reverse[i]?.getD .non) I h0 hk (fun i n S hi hI => ?_) (fun n S hI => ?_) (fun i n S hi hI => hs i _ n S (hr i hi) hI) he
  · rw [next_rev (hst i n S hI), if_pos hi, rev_get hi]
    exact congrArg some (hr i hi)
  · rw [next_rev (hst _ n S hI), if_neg (Nat.lt_irrefl _)]
variable {t : E Bool} {elt : E D}
theorem wp_lstLc {l : Nat} {xs : List D} (I : Nat → List D → Sto → Prop) (h0 : I 0 [] S) (hk : xs.length < FUEL) (hst : ∀ i a S, I i a S → S[l]? = some (.lst xs))
    (hs : ∀ i x a S, xs[i]? = some x → I i a S → Wp (g x n S) (fun n1 S1 => Wp (t n1 S1) (fun b S2 => (b = true → Wp (elt n1 S2) (fun y S3 => a.length < LINE ∧ I (i + 1) (a ++ [y]) S3) X) ∧ (b = false → I (i + 1) a S2)) X) X)
    (he : ∀ a S, I xs.length a S → QL a S) : Wp (lcF (.one (.dyn l)) g t elt n FUEL 0 [] S) QL X :=
  wp_lc xs.length (fun i => xs[i]?.getD .non) I h0 hk (fun i n S hi hI => by rw [next_dyn (hst i n S hI), List.getElem?_eq_getElem hi]; rfl) (fun n S hI => by rw [next_dyn (hst _ n S hI), List.getElem?_eq_none (Nat.le_refl _)])
    (fun i n S hi hI => by rw [List.getElem?_eq_getElem hi]; exact hs i _ n S (List.getElem?_eq_getElem hi) hI) he
theorem wp_fixLc {b : Bool} {xs : List D} (I : Nat → List D → Sto → Prop) (h0 : I 0 [] S) (hk : xs.length < FUEL)
    (hs : ∀ i x a S, xs[i]? = some x → I i a S → Wp (g x n S) (fun n1 S1 => Wp (t n1 S1) (fun b S2 => (b = true → Wp (elt n1 S2) (fun y S3 => a.length < LINE ∧ I (i + 1) (a ++ [y]) S3) X) ∧ (b = false → I (i + 1) a S2)) X) X)
    (he : ∀ a S, I xs.length a S → QL a S) : Wp (lcF (.one (.fix b xs)) g t elt n FUEL 0 [] S) QL X :=
  wp_lc xs.length (fun i => xs[i]?.getD .non) I h0 hk (fun i n S hi hI => by rw [next_fix, List.getElem?_eq_getElem hi]; rfl) (fun n S hI => by rw [next_fix, List.getElem?_eq_none (Nat.le_refl _)])
    (fun i n S hi hI => by rw [List.getElem?_eq_getElem hi]; exact hs i _ n S (List.getElem?_eq_getElem hi) hI) he
end
end Jm

set_option Elab.async false
set_option linter.all false
set_option maxRecDepth 100000
set_option maxHeartbeats 4000000
/-! Jm, part U: more of the plain part. -/
noncomputable section
namespace Jm
open PySem PySem.Spec PyProof.Rows L2
section
variable {S : Sto} {l : Nat} {xs : List D} {ns : List Int} {bs : List Bool} {QD : D → Sto → Prop} {X : PX}
theorem wp_cut {R Q : Out → Sto → Prop} {f g : E Out} {n : En} (h1 : Wp (f n S) R nX) (h2 : ∀ o S', R o S' → Wp (sThen o g S') Q X) : Wp (sSeq f g n S) Q X := by
  rw [wp_sSeq]
  exact h1.of h2
theorem rev_lst (h : S[l]? = some (.lst xs)) : revD (.loc l) S = mkLst xs.reverse S := by
  show (match lstAt S l with
    | some xs => mkLst xs.reverse S
    | none => none) = _
  rw [lstAt_eq h]
theorem allSome_map {A B : Type} (f : A → B) : ∀ xs : List A, allSome (xs.map fun x => some (f x)) = some (xs.map f)
  | [] => rfl
  | x :: xs => by simp [allSome, allSome_map f xs]
theorem asInts_map (ns : List Int) : asInts (ns.map D.int) = some ns := by
  unfold asInts
  rw [List.map_map]
  exact (allSome_map (fun i => i) ns).trans (by rw [List.map_id'])
theorem asBls_map (bs : List Bool) : asBls (bs.map D.bl) = some bs := by
  unfold asBls
  rw [List.map_map]
  exact (allSome_map (fun i => i) bs).trans (by rw [List.map_id'])
theorem sum_lst (h : S[l]? = some (.lst (ns.map D.int))) : sumD [.loc l] S = some (.int ns.sum, S) := by
  unfold sumD
  simp only [lstAt_eq h, asInts_map, Option.map_some]
theorem quan_lst {f : List Bool → Bool} (h : S[l]? = some (.lst (bs.map D.bl))) : quanD f [.loc l] S = some (.bl (f bs), S) := by
  unfold quanD
  simp only [lstAt_eq h, asBls_map, Option.map_some]
@[simp] theorem maxX_ii {a b : Int} : maxX [.int a, .int b] S = some (.int (maxI [a, b]), S) := rfl
theorem maxX_t {a b : Int} : maxX [.tup [.int a, .int b]] S = some (.int (max a b), S) := rfl
theorem minX_t {a b : Int} : minX [.tup [.int a, .int b]] S = some (.int (min a b), S) := rfl
@[simp] theorem agg_ii {f : List Int → Int} {a b : Int} : aggD f [.int a, .int b] S = some (.int (f [a, b]), S) := rfl
@[simp] theorem range_snoc {A : Type} (f : Nat → A) (i : Nat) : (List.range (i + 1)).map f = (List.range i).map f ++ [f i] := by
  rw [List.range_succ, List.map_append]; rfl
@[simp] theorem slc_scr {lo hi : Option Int} : slcD (.scr xs) lo hi S = mkLst (cutD xs lo hi) S := rfl
@[simp] theorem slc_tup {lo hi : Option Int} : slcD (.tup xs) lo hi S = mkTup (cutD xs lo hi) S := rfl
theorem slc_lst {lo hi : Option Int} (h : S[l]? = some (.lst xs)) : slcD (.loc l) lo hi S = mkLst (cutD xs lo hi) S := by
  show (match lstAt S l with
    | some xs => mkLst (cutD xs lo hi) S
    | none => none) = _
  rw [lstAt_eq h]
theorem cutD_map {A : Type} (f : A → D) (ys : List A) (lo hi : Option Int) : ∃ zs : List A, cutD (ys.map f) lo hi = zs.map f ∧ zs.length ≤ ys.length := by
  unfold cutD
  refine ⟨(ys.drop (HT.sIx (ys.map f).length 0 lo)).take (HT.sIx (ys.map f).length (ys.map f).length hi - HT.sIx (ys.map f).length 0 lo), ?_, ?_⟩
  · rw [List.map_take, List.map_drop]
  · rw [List.length_take, List.length_drop]; omega
end
end Jm

set_option Elab.async false
set_option linter.all false
set_option maxRecDepth 100000
set_option maxHeartbeats 4000000
/-! Jm, part Ta: while, try, raise, frames, things of any kind in the plain part. -/
noncomputable section
namespace Jm
open PySem PySem.Spec PyProof.Rows L2
section
variable {A B : Type} {Q : Out → Sto → Prop} {QD : D → Sto → Prop} {X : PX} {S S' : Sto} {n : En}
theorem wp_whileI {t : E Bool} {body : E Out} (I : Nat → En → Sto → Prop) (j : Nat) (hj : j < FUEL) (h0 : I j n S)
    (hs : ∀ j n S (T : Out → Sto → Prop), (∀ o S', T o S' = turnQ (fun n' S' => ∃ j', j' < j ∧ I j' n' S') Q o S') → I j n S → Wp (t n S) (fun b S1 => (b = true → Wp (body n S1) T X) ∧ (b = false → Q (.nx n) S1)) (fun c fs S1 => Q (.er c fs n) S1)) : Wp (sWhile t body n S) Q X := by
  have core : ∀ m j n S, j < m → I j n S → Wp (whileF t body m n S) Q X := by
    intro m
    induction m with
    | zero => intro j n S h; omega
    | succ m ih =>
      intro j n S hm hI
      unfold whileF
      rw [wp_sBnd]
      refine (hs j n S _ (fun _ _ => rfl) hI).imp (fun b S1 hb => ?_) fun _ _ _ z => z
      cases b with
      | false => exact hb.2 rfl
      | true =>
        have hb := hb.1 rfl
        rw [if_pos rfl, wp_rbind]
        refine hb.q fun o S2 ho => ?_
        cases o with
        | nx n2 => obtain ⟨j', h1, h2⟩ := ho; exact ih j' n2 S2 (by omega) h2
        | ct n2 => obtain ⟨j', h1, h2⟩ := ho; exact ih j' n2 S2 (by omega) h2
        | bk n2 => exact ho
        | rt d => exact ho
        | er c fs n2 => exact ho
  exact core FUEL j n S hj h0
/-- one statement at a time, what follows unseen -/
theorem wp_sq {f g : E Out} (h : ∀ K : Out → Sto → Prop, (∀ o S', K o S' = Wp (sThen o g S') Q X) → Wp (f n S) K X) : Wp (sSeq f g n S) Q X := by
  rw [wp_sSeq]
  exact h _ fun _ _ => rfl
theorem wp_let {r : Res A} {Q : A → Sto → Prop} (h : ∀ K : A → Sto → Prop, (∀ o S', K o S' = Q o S') → Wp r K X) : Wp r Q X := h _ fun _ _ => rfl
section
variable {it : Itn} {g : G} {body : E Out}
theorem wp_rngL {lo : Int} {k : Nat} (I : Nat → En → Sto → Prop) (h0 : I 0 n S) (hk : k < FUEL)
    (hs : ∀ i n S (T : Out → Sto → Prop), (∀ o S', T o S' = turnQ (I (i + 1)) Q o S') → i < k → I i n S → Wp (g (.int (lo + (i : Nat))) n S) (fun n1 S1 => Wp (body n1 S1) T X) (fun c fs S1 => Q (.er c fs n) S1))
    (he : ∀ n S, I k n S → Q (.nx n) S) : Wp (loopF (.rng lo 1 k) g body FUEL 0 n S) Q X := wp_rngLoop I h0 hk (fun i n S hi hI => hs i n S _ (fun _ _ => rfl) hi hI) he
theorem wp_lstL {l : Nat} {xs : List D} (I : Nat → En → Sto → Prop) (h0 : I 0 n S) (hk : xs.length < FUEL) (hst : ∀ i n S, I i n S → S[l]? = some (.lst xs))
    (hs : ∀ i x n S (T : Out → Sto → Prop), (∀ o S', T o S' = turnQ (I (i + 1)) Q o S') → xs[i]? = some x → I i n S → Wp (g x n S) (fun n1 S1 => Wp (body n1 S1) T X) (fun c fs S1 => Q (.er c fs n) S1)) (he : ∀ n S, I xs.length n S → Q (.nx n) S) :
    Wp (loopF (.one (.dyn l)) g body FUEL 0 n S) Q X := wp_lstLoop I h0 hk hst (fun i x n S hi hI => hs i x n S _ (fun _ _ => rfl) hi hI) he
theorem wp_fixL {b : Bool} {xs : List D} (I : Nat → En → Sto → Prop) (h0 : I 0 n S) (hk : xs.length < FUEL)
    (hs : ∀ i x n S (T : Out → Sto → Prop), (∀ o S', T o S' = turnQ (I (i + 1)) Q o S') → xs[i]? = some x → I i n S → Wp (g x n S) (fun n1 S1 => Wp (body n1 S1) T X) (fun c fs S1 => Q (.er c fs n) S1)) (he : ∀ n S, I xs.length n S → Q (.nx n) S) :
    Wp (loopF (.one (.fix b xs)) g body FUEL 0 n S) Q X := wp_fixLoop I h0 hk (fun i x n S hi hI => hs i x n S _ (fun _ _ => rfl) hi hI) he
end
section
variable {it : Itn} {g : G} {t : E Bool} {elt : E D} {QL : List D → Sto → Prop}
theorem wp_rngC {lo : Int} {k : Nat} (I : Nat → List D → Sto → Prop) (h0 : I 0 [] S) (hk : k < FUEL)
    (hs : ∀ i a S (K : D → Sto → Prop), (∀ y S3, K y S3 = (a.length < LINE ∧ I (i + 1) (a ++ [y]) S3)) → i < k → I i a S → Wp (g (.int (lo + (i : Nat))) n S) (fun n1 S1 => Wp (t n1 S1) (fun b S2 => (b = true → Wp (elt n1 S2) K X) ∧ (b = false → I (i + 1) a S2)) X) X)
    (he : ∀ a S, I k a S → QL a S) : Wp (lcF (.rng lo 1 k) g t elt n FUEL 0 [] S) QL X := wp_rngLc I h0 hk (fun i a S hi hI => hs i a S _ (fun _ _ => rfl) hi hI) he
theorem wp_lstC {l : Nat} {xs : List D} (I : Nat → List D → Sto → Prop) (h0 : I 0 [] S) (hk : xs.length < FUEL) (hst : ∀ i a S, I i a S → S[l]? = some (.lst xs))
    (hs : ∀ i x a S (K : D → Sto → Prop), (∀ y S3, K y S3 = (a.length < LINE ∧ I (i + 1) (a ++ [y]) S3)) → xs[i]? = some x → I i a S → Wp (g x n S) (fun n1 S1 => Wp (t n1 S1) (fun b S2 => (b = true → Wp (elt n1 S2) K X) ∧ (b = false → I (i + 1) a S2)) X) X)
    (he : ∀ a S, I xs.length a S → QL a S) : Wp (lcF (.one (.dyn l)) g t elt n FUEL 0 [] S) QL X := wp_lstLc I h0 hk hst (fun i x a S hi hI => hs i x a S _ (fun _ _ => rfl) hi hI) he
theorem wp_fixC {b : Bool} {xs : List D} (I : Nat → List D → Sto → Prop) (h0 : I 0 [] S) (hk : xs.length < FUEL)
    (hs : ∀ i x a S (K : D → Sto → Prop), (∀ y S3, K y S3 = (a.length < LINE ∧ I (i + 1) (a ++ [y]) S3)) → xs[i]? = some x → I i a S → Wp (g x n S) (fun n1 S1 => Wp (t n1 S1) (fun b S2 => (b = true → Wp (elt n1 S2) K X) ∧ (b = false → I (i + 1) a S2)) X) X)
    (he : ∀ a S, I xs.length a S → QL a S) : Wp (lcF (.one (.fix b xs)) g t elt n FUEL 0 [] S) QL X := wp_fixLc I h0 hk (fun i x a S hi hI => hs i x a S _ (fun _ _ => rfl) hi hI) he
end
/-- a comprehension over a tuple, its items by a function of pure data -/
theorem wp_fixMap {b : Bool} {xs ys : List D} {g : G} {elt : E D} {QL : List D → Sto → Prop} (hl : xs.length = ys.length) (hk : xs.length < 100000)
    (hs : ∀ (i : Nat) (x y : D), xs[i]? = some x → ys[i]? = some y → ∀ K : D → Sto → Prop, K y S → Wp (g x n S) (fun n1 S1 => Wp (elt n1 S1) K X) X) (he : QL ys S) : Wp (lcF (.one (.fix b xs)) g tTru elt n FUEL 0 [] S) QL X := by
  refine wp_fixLc (fun i a S' => S' = S ∧ a = ys.take i) ⟨rfl, rfl⟩ (fuel_of (by omega)) ?_ ?_
  · rintro i x a S' hx ⟨rfl, rfl⟩
    have hi := (List.getElem?_eq_some_iff.mp hx).1
    have hy : ys[i]? = some (ys[i]'(by omega)) := List.getElem?_eq_getElem (by omega)
    have q := hs i x _ hx hy (fun y S3 => (ys.take i).length < LINE ∧ S3 = S' ∧ (ys.take i) ++ [y] = ys.take (i + 1)) ⟨by rw [List.length_take]; unfold LINE; omega, rfl, by rw [List.take_add_one, hy]; rfl⟩
    exact q.q fun n1 S1 h => by
      simp only [wp_tTru]
      exact ⟨fun _ => h, fun z => nomatch z⟩
  · rintro a S' ⟨rfl, rfl⟩
    rw [hl, List.take_length]
    exact he
@[simp] theorem wp_sTry {fb : E Out} {l : List HC} : Wp (sTry fb l n S) Q X = Wp (fb n S) (fun o S' => match o with
  | .er c fs n' => Wp (runCl l c fs n' S') Q X
  | o => Q o S') X := by
  unfold sTry
  rw [wp_rbind]
  congr 1
  funext o S'
  cases o <;> rfl
@[simp] theorem wp_sRaise {i : Nat} {fs : List (E D)} : Wp (sRaise i fs n S) Q X = Wp (eAll fs n S) (fun ds S1 => ds.length = 1 ∧ Q (.er i ds n) S1) (fun c fs S1 => Q (.er c fs n) S1) := by
  unfold sRaise
  rw [wp_sBnd]
  congr 1
  funext ds S1
  by_cases h : ds.length = 1
  · rw [if_pos h, wp_ok]; simp [h]
  · rw [if_neg h, wp_bad]; simp [h]
@[simp] theorem wp_eMk {c : Nat} {f : Str} {m : List D → M D} {fs : List (E D)} : Wp (eMk c f m fs n S) QD X = Wp (eAll fs n S) (fun ds S1 => Wp (m ds S1) (fun x S2 => QD (.ins c f x) S2) nX) X := by
  unfold eMk
  rw [wp_bnd]
  congr 1
  funext ds S1
  rw [wp_rbind, wp_nox]; rfl
@[simp] theorem wp_eAtr {c : Nat} {nm : Str} {fe : E D} : Wp (eAtr c nm fe n S) QD X = Wp (fe n S) (fun d S1 => match d with
  | .ins c' f x => if c' = c ∧ f = nm then QD x S1 else False
  | _ => False) X := by
  unfold eAtr
  rw [wp_bnd]
  congr 1
  funext d S1
  cases d <;> first | rfl | skip
  dsimp only
  split <;> rfl
@[simp] theorem wp_eXv {i : Nat} {fs : List (E D)} : Wp (eXv i fs n S) QD X = Wp (eAll fs n S) (fun ds S1 => ds.length = 1 ∧ QD (.exv i ds) S1) X := by
  unfold eXv
  rw [wp_bnd]
  congr 1
  funext ds S1
  by_cases h : ds.length = 1
  · rw [if_pos h]; simp [h, Wp]
  · rw [if_neg h]; simp [h, Wp]
@[simp] theorem wp_eXv0 {i : Nat} : Wp (eXv0 i n S) QD X = QD (.exv i []) S := rfl
@[simp] theorem wp_sRaise0 {i : Nat} : Wp (sRaise0 i n S) Q X = Q (.er i [] n) S := rfl
@[simp] theorem wp_eXvf {cl : List Nat} {nm : Str} {fe : E D} : Wp (eXvf cl nm fe n S) QD X = Wp (fe n S) (fun d S1 => match d with
  | .exv c [x] => if c ∈ cl ∧ fldName c = nm then QD x S1 else False
  | _ => False) X := by
  unfold eXvf
  rw [wp_bnd]
  congr 1
  funext d S1
  cases d <;> first | rfl | skip
  rename_i c fs
  match fs with
  | [] => rfl
  | [x] => dsimp only; split <;> rfl
  | _ :: _ :: _ => rfl
@[simp] theorem wp_eMth {c : Nat} {nm : Str} {m : List D → M D} {fe : E D} {fs : List (E D)} : Wp (eMth c nm m fe fs n S) QD X = Wp (fe n S) (fun d S1 => match d with
  | .ins c' f x => if c' = c ∧ f ≠ nm then Wp (eAll fs n S1) (fun ds S2 => Wp (m (.ins c' f x :: ds) S2) QD nX) X else False
  | _ => False) X := by
  unfold eMth
  rw [wp_bnd]
  congr 1
  funext d S1
  cases d <;> first | rfl | skip
  dsimp only
  split
  · rw [wp_bnd]
    congr 1
    funext ds S2
    rw [wp_nox]
  · rfl
@[simp] theorem wp_eFld {f : Str} {fe : E D} : Wp (eFld f fe n S) QD X = Wp (fe n S) (fun d S1 => match d with
  | .exc c [x] => fldName c = f ∧ QD x S1
  | _ => False) X := by
  unfold eFld
  rw [wp_bnd]
  congr 1
  funext d S1
  cases d with
  | exc c fs =>
    cases fs with
    | nil => rfl
    | cons x xs =>
      cases xs with
      | nil =>
        show Wp (if fldName c = f then .ok x S1 else .bad) QD X = _
        by_cases h : fldName c = f
        · rw [if_pos h]; simp [h]
        · rw [if_neg h]; simp [h]
      | cons _ _ => rfl
  | _ => rfl
@[simp] theorem int_b {b : Bool} : intD [.bl b] S = some (.int (if b = true then 1 else 0), S) := by cases b <;> rfl
@[simp] theorem line_lit {k : Nat} : (k ≤ LINE) = (k ≤ 16777216) := rfl
@[simp] theorem line_lit' {k : Nat} : (k < LINE) = (k < 16777216) := rfl
theorem wp_lstRg {a : Int} (h : a.natAbs ≤ 1000000) : Wp (lft (lstRg (.int a) S)) QD X = QD (.loc S.length) (S ++ [.lst (rgD a.toNat)]) := by
  show Wp (lft (if decide (a.natAbs ≤ LINE) = true then mkLst (rgD a.toNat) S else none)) _ _ = _
  rw [if_pos (by rw [decide_eq_true_eq]; unfold LINE; omega), wp_mkLst]
  have : (rgD a.toNat).length ≤ LINE := by unfold rgD LINE; rw [List.length_map, List.length_range]; omega
  simp [this]
variable {l : Nat} {xs ys : List D} {ns : List Int}
theorem sorted_lst (h : S[l]? = some (.lst (ns.map D.int))) : sortedD [.loc l] S = mkLst ((sortI ns).map .int) S := by
  unfold sortedD
  simp only [lstAt_eq h, asInts_map]
theorem pop_lst {x : D} (h : S[l]? = some (.lst (xs ++ [x]))) : popXD (.loc l) [] S = some (x, S.set l (.lst xs)) := by
  show (match lstAt S l with
    | some xs => (xs[xs.length - 1]?).map fun y => (y, S.set l (.lst xs.dropLast))
    | none => none) = _
  rw [lstAt_eq h]
  simp
theorem popI_lst {x : D} {i : Nat} (h : S[l]? = some (.lst xs)) (hx : xs[i]? = some x) (hi : i ≤ 1000000) : popXD (.loc l) [.int i] S = some (x, S.set l (.lst (xs.eraseIdx i))) := by
  have hl : i < xs.length := (List.getElem?_eq_some_iff.mp hx).1
  show popA l i S = _
  unfold popA
  rw [lstAt_eq h]
  dsimp only
  rw [if_pos (by rw [decide_eq_true_eq]; unfold LINE; omega)]
  have e : ixN xs.length (i : Int) = some i := by
    unfold ixN
    rw [if_pos (by omega), if_pos (by omega)]; simp
  rw [e]
  simp [hx]
theorem extend_lst {k : Nat} (h : S[l]? = some (.lst xs)) (h2 : S[k]? = some (.lst ys)) : Wp (lft (extendD (.loc l) [.loc k] S)) QD X = (xs.length + ys.length ≤ LINE ∧ QD .non (S.set l (.lst (xs ++ ys)))) := by
  show Wp (lft (match lstAt S l, lstAt S k with
    | some xs, some ys => if xs.length + ys.length ≤ LINE then some (D.non, S.set l (.lst (xs ++ ys))) else none
    | _, _ => none)) _ _ = _
  rw [lstAt_eq h, lstAt_eq h2]
  show Wp (lft (if xs.length + ys.length ≤ LINE then some (D.non, S.set l (.lst (xs ++ ys))) else none)) _ _ = _
  by_cases c : xs.length + ys.length ≤ LINE <;> simp [c]
@[simp] theorem rev_tup : revD (.tup xs) S = mkTup xs.reverse S := rfl
@[simp] theorem tuple_t : tupleD [.tup xs] S = some (.tup xs, S) := rfl
theorem tuple_lst (h : S[l]? = some (.lst xs)) : tupleD [.loc l] S = mkTup xs S := by
  show (match lstAt S l with
    | some xs => mkTup xs S
    | none => none) = _
  rw [lstAt_eq h]
theorem list_lst (h : S[l]? = some (.lst xs)) : listD [.loc l] S = mkLst xs S := by
  show (match lstAt S l with
    | some xs => mkLst xs S
    | none => none) = _
  rw [lstAt_eq h]
end
/-! ### data -/
@[simp] theorem eqvAll_nil {xs : List PyData} : PyData.eqvAll xs [] = xs.isEmpty := by cases xs <;> rfl
theorem allSome_all {A B : Type} {f : A → Option B} : ∀ {xs : List A}, (∀ x ∈ xs, ∃ y, f x = some y) → ∃ ys, allSome (xs.map f) = some ys ∧ ys.length = xs.length
  | [], _ => ⟨[], rfl, rfl⟩
  | x :: xs, h => by
    obtain ⟨y, e⟩ := h x List.mem_cons_self
    obtain ⟨ys, e2, e3⟩ := allSome_all (xs := xs) fun z hz => h z (List.mem_cons_of_mem _ hz)
    exact ⟨y :: ys, by simp [allSome, e, e2], by simp [e3]⟩
/-- it is a thing of data, the store's lists but p's -/
def gd (S : Sto) (p : Nat) : Nat → D → Prop
  | 0, _ => False
  | n + 1, d => match d with
    | .non => True
    | .bl _ => True
    | .int _ => True
    | .str x => PyData.strOk x = true
    | .tup xs => xs.length ≤ 200 ∧ ∀ x ∈ xs, gd S p n x
    | .loc l => l ≠ p ∧ ∃ xs, S[l]? = some (.lst xs) ∧ xs.length ≤ 200 ∧ ∀ x ∈ xs, gd S p n x
    | _ => False
/-- all lists but p stand as they stood -/
def Mod (p : Nat) (S S' : Sto) : Prop := S.length ≤ S'.length ∧ ∀ k o, k ≠ p → S[k]? = some o → S'[k]? = some o
section
variable {S S' S'' : Sto} {p l : Nat}
theorem Mod.rfl' : Mod p S S := ⟨Nat.le_refl _, fun _ _ _ h => h⟩
theorem Mod.trans (a : Mod p S S') (b : Mod p S' S'') : Mod p S S'' := ⟨Nat.le_trans a.1 b.1, fun k o n h => b.2 k o n (a.2 k o n h)⟩
theorem Mod.of (h : Ext S S') : Mod p S S' := ⟨h.length_le, fun k o _ e => h.get e⟩
theorem Mod.ext (a : Mod p S S') (b : Ext S' S'') : Mod p S S'' := a.trans (.of b)
theorem Mod.app {G : Sto} (a : Mod p S S') : Mod p S (S' ++ G) := a.trans (.of (List.prefix_append ..))
theorem Mod.setp {o : O} (a : Mod p S S') : Mod p S (S'.set p o) := ⟨by rw [List.length_set]; exact a.1, fun k o n h => by
  rw [List.getElem?_set_ne (Ne.symm n)]; exact a.2 k o n h⟩
theorem Mod.setn {o : O} (a : Mod p S S') (h : S.length ≤ l) : Mod p S (S'.set l o) := ⟨by rw [List.length_set]; exact a.1, fun k o n e => by
  have := (List.getElem?_eq_some_iff.mp e).1
  rw [List.getElem?_set_ne (by omega)]; exact a.2 k o n e⟩
theorem gd_mono : ∀ {n m : Nat} {d : D}, gd S p n d → n ≤ m → gd S p m d
  | 0, _, _, h, _ => h.elim
  | n + 1, 0, _, _, h => absurd h (by omega)
  | n + 1, m + 1, d, h, hm => by
    cases d with
    | tup xs => exact ⟨h.1, fun x hx => gd_mono (h.2 x hx) (by omega)⟩
    | loc l => obtain ⟨h1, xs, h2, h3, h4⟩ := h; exact ⟨h1, xs, h2, h3, fun x hx => gd_mono (h4 x hx) (by omega)⟩
    | _ => exact h
theorem gd_mod (a : Mod p S S') : ∀ {n : Nat} {d : D}, gd S p n d → gd S' p n d
  | 0, _, h => h.elim
  | n + 1, d, h => by
    cases d with
    | tup xs => exact ⟨h.1, fun x hx => gd_mod a (h.2 x hx)⟩
    | loc l => obtain ⟨h1, xs, h2, h3, h4⟩ := h; exact ⟨h1, xs, a.2 l _ h1 h2, h3, fun x hx => gd_mod a (h4 x hx)⟩
    | _ => exact h
theorem gd_py : ∀ {n k : Nat} {d : D}, gd S p n d → n ≤ k → ∃ y, pyV S k d = some y
  | 0, _, _, h, _ => h.elim
  | n + 1, 0, _, _, h => absurd h (by omega)
  | n + 1, k + 1, d, h, hk => by
    cases d with
    | non => exact ⟨_, rfl⟩
    | bl b => exact ⟨_, rfl⟩
    | int b => exact ⟨_, rfl⟩
    | str x =>
      have h : PyData.strOk x = true := h
      exact ⟨.str x, by simp [pyV, h]⟩
    | tup xs =>
      obtain ⟨ys, e, _⟩ := allSome_all fun x hx => gd_py (h.2 x hx) (k := k) (by omega)
      exact ⟨.tuple ys, by simp [pyV, e]⟩
    | loc l =>
      obtain ⟨h1, xs, h2, h3, h4⟩ := h
      obtain ⟨ys, e, _⟩ := allSome_all fun x hx => gd_py (h4 x hx) (k := k) (by omega)
      exact ⟨.list ys, by simp [pyV, lstAt_eq h2, e]⟩
    | _ => exact h.elim
theorem gd_clean : ∀ {n : Nat} {d : D}, gd S p n d → Clean d
  | 0, _, h => h.elim
  | n + 1, d, h => by
    cases d with
    | non => exact .non
    | bl b => exact .bl b
    | int b => exact .int b
    | str x => exact .str x
    | tup xs => exact .tup fun x hx => gd_clean (h.2 x hx)
    | loc l => exact .loc l
    | _ => exact h.elim
/-- xs != [] -/
theorem ne_nil {k : Nat} {xs : List D} (h : S[l]? = some (.lst xs)) (h2 : S[k]? = some (.lst [])) (hp : ∀ x ∈ xs, ∃ y, pyV S 63 x = some y) : neD (.loc l) (.loc k) S = some (.bl (!xs.isEmpty), S) := by
  obtain ⟨ys, e1, e2⟩ := allSome_all hp
  have e3 : pyV S 64 (.loc l) = some (.list ys) := by
    show (match lstAt S l with
      | some xs => (allSome (xs.map (pyV S 63))).map PyData.list
      | none => none) = _
    rw [lstAt_eq h]
    simp [e1]
  have e4 : pyV S 64 (.loc k) = some (.list []) := by
    show (match lstAt S k with
      | some xs => (allSome (xs.map (pyV S 63))).map PyData.list
      | none => none) = _
    rw [lstAt_eq h2]
    rfl
  unfold neD
  rw [e3, e4]
  have e5 : ys.isEmpty = xs.isEmpty := by cases ys <;> cases xs <;> first | rfl | simp at e2
  show some (D.bl (!PyData.eqvAll ys []), S) = _
  rw [eqvAll_nil, e5]
theorem pyV_ints' (k : Nat) (ns : List Int) : allSome ((ns.map D.int).map (pyV S (k + 1))) = some (ns.map PyData.int) := by
  rw [List.map_map]
  have : (pyV S (k + 1)) ∘ D.int = fun n => some (PyData.int n) := funext fun _ => rfl
  rw [this]
  exact allSome_map PyData.int ns
theorem eqvAll_ints : ∀ {as bs : List Int}, PyData.eqvAll (as.map PyData.int) (bs.map PyData.int) = decide (as = bs)
  | [], [] => rfl
  | [], _ :: _ => rfl
  | _ :: _, [] => rfl
  | a :: as, b :: bs => by
    show ((a == b) && PyData.eqvAll (as.map PyData.int) (bs.map PyData.int)) = _
    rw [eqvAll_ints]
    by_cases h : a = b
    · by_cases h2 : as = bs <;> simp [h, h2]
    · simp [h]
theorem py_intL {k l : Nat} {ns : List Int} (h : S[l]? = some (.lst (ns.map D.int))) : pyV S (k + 2) (.loc l) = some (.list (ns.map PyData.int)) := by
  show (match lstAt S l with
    | some xs => (allSome (xs.map (pyV S (k + 1)))).map PyData.list
    | none => none) = _
  rw [lstAt_eq h]
  show (allSome ((ns.map D.int).map (pyV S (k + 1)))).map PyData.list = _
  rw [pyV_ints']; rfl
theorem eq_ints {k l : Nat} {as bs : List Int} (h : S[l]? = some (.lst (as.map D.int))) (h2 : S[k]? = some (.lst (bs.map D.int))) : eqD (.loc l) (.loc k) S = some (.bl (decide (as = bs)), S) := by
  unfold eqD
  rw [py_intL h, py_intL h2]
  show some (D.bl (PyData.eqvAll _ _), S) = _
  rw [eqvAll_ints]
theorem ne_ints {k l : Nat} {as bs : List Int} (h : S[l]? = some (.lst (as.map D.int))) (h2 : S[k]? = some (.lst (bs.map D.int))) : neD (.loc l) (.loc k) S = some (.bl (!decide (as = bs)), S) := by
  unfold neD
  rw [py_intL h, py_intL h2]
  show some (D.bl (!PyData.eqvAll _ _), S) = _
  rw [eqvAll_ints]
theorem any_ints {a : Int} : ∀ ns : List Int, ((ns.map PyData.int).any fun z => PyData.eqv z (.int a)) = decide (a ∈ ns)
  | [] => rfl
  | b :: bs => by
    have : PyData.eqv (.int b) (.int a) = decide (b = a) := rfl
    rw [List.map_cons, List.any_cons, this, any_ints bs]
    by_cases hb : b = a
    · simp [hb]
    · have hb' : ¬ a = b := fun z => hb z.symm
      simp [hb, hb']
theorem in_ints {l : Nat} {a : Int} {ns : List Int} (h : S[l]? = some (.lst (ns.map D.int))) : inD (.int a) (.loc l) S = some (.bl (decide (a ∈ ns)), S) := by
  have e : memD (.int a) (.loc l) S = some (decide (a ∈ ns)) := by
    show (match pyV S 64 (.int a), pyV S 64 (.loc l) with
      | some a, some (.tuple bs) => some (bs.any fun z => PyData.eqv z a)
      | some a, some (.list bs) => some (bs.any fun z => PyData.eqv z a)
      | _, _ => memK (.loc l) (keyD (.int a)) S) = _
    rw [py_intL h]
    show some ((ns.map PyData.int).any fun z => PyData.eqv z (.int a)) = _
    rw [any_ints]
  unfold inD
  rw [e]
end
end Jm

set_option Elab.async false
set_option linter.all false
set_option maxRecDepth 100000
set_option maxHeartbeats 4000000
/-! Jm, part Tb: readings with the fuel as a parameter: what the kernel reckons. -/
noncomputable section
namespace Jm
open PySem PySem.Spec PyProof.Rows L2
def sWhileK (K : Nat) (t : E Bool) (body : E Out) : E Out := whileF t body K
def sForK (K : Nat) (f : E Itn) (g : G) (body : E Out) : E Out := sBnd f fun it => loopF it g body K 0
def eLcK (K : Nat) (f : E Itn) (vs : List Nat) (g : G) (t : E Bool) (elt : E D) : E D := eBnd f fun it n S => rbind (nox (lcF it g t elt (wipeD n vs) K 0 [] S)) fun ys S' => .ok (.loc S'.length) (S' ++ [.lst ys])
def lcInK (K : Nat) (l : Nat) (fe : E D) : List LcC → En → Sto → Res Unit
  | [], n, S => rbind (fe n S) fun y S3 => lcPut l y S3
  | c :: r, n, S => rbind (c.f n S) fun it S1 => lcG it c.g c.t (lcInK K l fe r) (wipeD n c.vs) K 0 S1
def eLcNK (K : Nat) (c0 : LcC) (rest : List LcC) (fe : E D) : E D := eBnd c0.f fun it n S => rbind (nox (lcG it c0.g c0.t (lcInK K S.length fe rest) (wipeD n c0.vs) K 0 (S ++ [.lst []]))) fun _ S' => .ok (.loc S.length) S'
theorem lcInK_eq (l : Nat) (fe : E D) : ∀ r, lcInK FUEL l fe r = lcIn l fe r
  | [] => rfl
  | c :: r => by
    funext n S
    show rbind (c.f n S) _ = rbind (c.f n S) _
    rw [lcInK_eq l fe r]
theorem eLcNK_eq (c0 : LcC) (rest : List LcC) (fe : E D) : eLcNK FUEL c0 rest fe = eLcN c0 rest fe := by
  unfold eLcNK eLcN
  congr 1
  funext it n S
  rw [lcInK_eq]
end Jm

set_option Elab.async false
set_option linter.all false
set_option maxRecDepth 100000
set_option maxHeartbeats 4000000
/-! Jm, part Tc: rules for ranges with a step, for calls in a store of their own. -/
noncomputable section
namespace Jm
open PySem PySem.Spec PyProof.Rows L2
variable {A : Type} {S : Sto} {n : En} {X : PX} {Q : Out → Sto → Prop} {QD : D → Sto → Prop} {QI : Itn → Sto → Prop}
theorem wp_rng3 {i j : Int} (hi : -1000000 ≤ i ∧ i ≤ 1000000) (hj : -1000000 ≤ j ∧ j ≤ 1000000) : Wp (rng3 [.int i, .int j, .int 2] n S) QI X = QI (.rng i 2 ((j - i + 1) / 2).toNat) S := by
  have h1 : rOk i = true := by rw [rOk_eq]; exact decide_eq_true (by omega)
  have h2 : rOk j = true := by rw [rOk_eq]; exact decide_eq_true (by omega)
  have e : rng3 [.int i, .int j, .int 2] n S = .ok (.rng i 2 ((j - i + 1) / 2).toNat) S := by
    show (if ((2 : Int) == -1 && (rOk i && rOk j)) = true then Res.ok (Itn.rng i (-1) (i - j).toNat) S else if ((2 : Int) == 2 && (rOk i && rOk j)) = true then Res.ok (Itn.rng i 2 ((j - i + 1) / 2).toNat) S else Res.bad) = _
    rw [h1, h2, if_neg (by decide), if_pos (by decide)]
  rw [e]; rfl
theorem wp_rngS {g : G} {body : E Out} {lo c : Int} {k : Nat} (I : Nat → En → Sto → Prop) (h0 : I 0 n S) (hk : k < FUEL)
    (hs : ∀ i n S (T : Out → Sto → Prop), (∀ o S', T o S' = turnQ (I (i + 1)) Q o S') → i < k → I i n S → Wp (g (.int (lo + (i : Nat) * c)) n S) (fun n1 S1 => Wp (body n1 S1) T X) (fun c fs S1 => Q (.er c fs n) S1))
    (he : ∀ n S, I k n S → Q (.nx n) S) : Wp (loopF (.rng lo c k) g body FUEL 0 n S) Q X :=
  wp_loop k (fun i => .int (lo + (i : Nat) * c)) I h0 hk (fun i n S hi _ => by rw [next_rng, if_pos hi]) (fun n S _ => by rw [next_rng, if_neg (Nat.lt_irrefl _)]) (fun i n S hi hI => hs i n S _ (fun _ _ => rfl) hi hI) he
theorem wp_graft {f : List D → M D} {ds : List D} (hf : frL ds = true) (h : Wp (f ds []) (fun d _ => frD d = true ∧ QD d S) nX) : Wp (graft f ds S) QD X := by
  unfold graft
  rw [if_pos hf]
  cases e : f ds [] with
  | ok d T =>
    rw [e] at h
    obtain ⟨h1, h2⟩ := h
    show Wp (keep d T S) QD X
    unfold keep
    rw [if_pos h1]
    exact h2
  | exc c fs T => rw [e] at h; exact h.elim
  | bad => rw [e] at h; exact h.elim
theorem wp_graftN {f : List D → M D} {ds : List D} (hf : frL ds = false) (h : Wp (f ds S) QD X) : Wp (graft f ds S) QD X := by
  unfold graft
  rw [if_neg (by rw [hf]; decide)]
  exact h
/-- what a call in an empty store says, in any -/
theorem graft_any {f : List D → M D} {ds : List D} {v : D} {T : Sto} (hf : frL ds = true) (hv : frD v = true) (h : graft f ds [] = .ok v T) : graft f ds S = .ok v S := by
  unfold graft at h ⊢
  rw [if_pos hf] at h ⊢
  cases e : f ds [] with
  | ok d T' =>
    rw [e] at h
    have h : keep d T' [] = .ok v T := h
    show keep d T' S = .ok v S
    unfold keep at h ⊢
    by_cases hd : frD d = true
    · rw [if_pos hd] at h ⊢
      cases h; rfl
    · rw [if_neg hd] at h
      split at h
      · split at h
        · split at h
          · cases h; exact nomatch hv
          · cases h
        · cases h
      · cases h
  | exc c fs T' => rw [e] at h; cases h
  | bad => rw [e] at h; cases h
end Jm

set_option Elab.async false
set_option linter.all false
set_option maxRecDepth 100000
set_option maxHeartbeats 4000000
/-! Jm, part Td: rules for comprehensions of more clauses. -/
noncomputable section
namespace Jm
open PySem PySem.Spec PyProof.Rows L2
variable {A : Type} {S : Sto} {n : En} {X : PX} {Q : Unit → Sto → Prop} {QD : D → Sto → Prop}
theorem wp_lcGK {it : Itn} {g : G} {t : E Bool} {body : En → Sto → Res Unit} (k : Nat) (item : Nat → D) (I : Nat → Sto → Prop)
    (hn : ∀ i S, i < k → I i S → it.next i S = some (some (item i))) (hz : ∀ S, I k S → it.next k S = some none)
    (hs : ∀ i S, i < k → I i S → Wp (g (item i) n S) (fun n1 S1 => Wp (t n1 S1) (fun b S2 => (b = true → Wp (body n1 S2) (fun _ S3 => I (i + 1) S3) X) ∧ (b = false → I (i + 1) S2)) X) X)
    (he : ∀ S, I k S → Q () S) : ∀ (m i : Nat) (S : Sto), i ≤ k → k - i < m → I i S → Wp (lcG it g t body n m i S) Q X
  | 0, i, S, _, h, _ => absurd h (Nat.not_lt_zero _)
  | m + 1, i, S, hi, hm, hI => by
    show Wp (match it.next i S with
      | none => .bad
      | some none => .ok () S
      | some (some d) => rbind (g d n S) fun n1 S1 => rbind (t n1 S1) fun b S2 => if b = true then rbind (body n1 S2) fun _ S3 => lcG it g t body n m (i + 1) S3 else lcG it g t body n m (i + 1) S2) Q X
    by_cases c : i < k
    · rw [hn i S c hI]
      have h := hs i S c hI
      show Wp (rbind (g (item i) n S) _) Q X
      rw [wp_rbind]
      refine h.imp (fun n1 S1 h1 => ?_) fun _ _ _ z => z
      rw [wp_rbind]
      refine h1.imp (fun b S2 h2 => ?_) fun _ _ _ z => z
      cases b with
      | true =>
        show Wp (rbind (body n1 S2) _) Q X
        rw [wp_rbind]
        exact (h2.1 rfl).imp (fun _ S3 h3 => wp_lcGK k item I hn hz hs he m (i + 1) S3 c (by omega) h3) fun _ _ _ z => z
      | false => exact wp_lcGK k item I hn hz hs he m (i + 1) S2 c (by omega) (h2.2 rfl)
    · have e : i = k := by omega
      subst e
      rw [hz S hI]
      exact he S hI
theorem wp_lstG {g : G} {t : E Bool} {body : En → Sto → Res Unit} {l : Nat} {xs : List D} (I : Nat → Sto → Prop) (h0 : I 0 S) (hk : xs.length < FUEL) (hst : ∀ i S, I i S → S[l]? = some (.lst xs))
    (hs : ∀ i x S, xs[i]? = some x → I i S → Wp (g x n S) (fun n1 S1 => Wp (t n1 S1) (fun b S2 => (b = true → Wp (body n1 S2) (fun _ S3 => I (i + 1) S3) X) ∧ (b = false → I (i + 1) S2)) X) X)
    (he : ∀ S, I xs.length S → Q () S) : Wp (lcG (.one (.dyn l)) g t body n FUEL 0 S) Q X :=
  wp_lcGK xs.length (fun i => xs[i]?.getD .non) I (fun i S hi hI => by rw [next_dyn (hst i S hI), List.getElem?_eq_getElem hi]; rfl) (fun S hI => by rw [next_dyn (hst _ S hI), List.getElem?_eq_none (Nat.le_refl _)])
    (fun i S hi hI => by rw [List.getElem?_eq_getElem hi]; exact hs i _ S (List.getElem?_eq_getElem hi) hI) he FUEL 0 S (Nat.zero_le _) (by omega) h0
theorem wp_fixG {g : G} {t : E Bool} {body : En → Sto → Res Unit} {tp : Bool} {xs : List D} (I : Nat → Sto → Prop) (h0 : I 0 S) (hk : xs.length < FUEL)
    (hs : ∀ i x S, xs[i]? = some x → I i S → Wp (g x n S) (fun n1 S1 => Wp (t n1 S1) (fun b S2 => (b = true → Wp (body n1 S2) (fun _ S3 => I (i + 1) S3) X) ∧ (b = false → I (i + 1) S2)) X) X)
    (he : ∀ S, I xs.length S → Q () S) : Wp (lcG (.one (.fix tp xs)) g t body n FUEL 0 S) Q X :=
  wp_lcGK xs.length (fun i => xs[i]?.getD .non) I (fun i S hi hI => by rw [next_fix, List.getElem?_eq_getElem hi]; rfl) (fun S hI => by rw [next_fix, List.getElem?_eq_none (Nat.le_refl _)])
    (fun i S hi hI => by rw [List.getElem?_eq_getElem hi]; exact hs i _ S (List.getElem?_eq_getElem hi) hI) he FUEL 0 S (Nat.zero_le _) (by omega) h0
theorem wp_put {l : Nat} {y : D} {acc : List D} (h : S[l]? = some (.lst acc)) : Wp (lcPut l y S) Q X = (acc.length < LINE ∧ Q () (S.set l (.lst (acc ++ [y])))) := by
  unfold lcPut
  rw [lstAt_eq h]
  show Wp (if acc.length < LINE then _ else _) Q X = _
  by_cases c : acc.length < LINE
  · rw [if_pos c]; simp [c]
  · rw [if_neg c]; simp [c]
theorem wp_eLcN {c0 : LcC} {rest : List LcC} {fe : E D} : Wp (eLcN c0 rest fe n S) QD X = Wp (c0.f n S) (fun it S1 => Wp (lcG it c0.g c0.t (lcIn S1.length fe rest) (wipeD n c0.vs) FUEL 0 (S1 ++ [.lst []])) (fun _ S2 => QD (.loc S1.length) S2) nX) X := by
  unfold eLcN
  rw [wp_bnd]
  congr 1
  funext it S1
  show Wp (rbind (nox _) _) QD X = _
  cases lcG it c0.g c0.t (lcIn S1.length fe rest) (wipeD n c0.vs) FUEL 0 (S1 ++ [.lst []]) <;> rfl
theorem wp_in0 {l : Nat} {fe : E D} : Wp (lcIn l fe [] n S) Q X = Wp (fe n S) (fun y S3 => Wp (lcPut l y S3) Q X) X := wp_rbind
theorem wp_in1 {l : Nat} {fe : E D} {c : LcC} {r : List LcC} : Wp (lcIn l fe (c :: r) n S) Q X = Wp (c.f n S) (fun it S1 => Wp (lcG it c.g c.t (lcIn l fe r) (wipeD n c.vs) FUEL 0 S1) Q X) X := wp_rbind
end Jm

set_option Elab.async false
set_option linter.all false
set_option maxRecDepth 100000
set_option maxHeartbeats 4000000
/-! Jm, part Ua: pairs of whole numbers: their order, their sort; small rules. -/
noncomputable section
namespace Jm
open PySem PySem.Spec PyProof.Rows L2 PySem.W
/-! ### pairs of ints, sorted -/
theorem ins_map {A B : Type} {le : A → A → Bool} {le2 : B → B → Bool} {f : A → B} (h : ∀ x y, le x y = le2 (f x) (f y)) (a : A) : ∀ l : List A, (insL le a l).map f = insL le2 (f a) (l.map f)
  | [] => rfl
  | b :: l => by
    show (if le a b = true then a :: b :: l else b :: insL le a l).map f = if le2 (f a) (f b) = true then f a :: f b :: l.map f else f b :: insL le2 (f a) (l.map f)
    rw [← h, ← ins_map h a l]
    split <;> rfl
theorem isort_map {A B : Type} {le : A → A → Bool} {le2 : B → B → Bool} {f : A → B} (h : ∀ x y, le x y = le2 (f x) (f y)) : ∀ l : List A, (isort le l).map f = isort le2 (l.map f)
  | [] => rfl
  | a :: l => by
    show (insL le a (isort le l)).map f = insL le2 (f a) (isort le2 (l.map f))
    rw [ins_map h, isort_map h l]
theorem ins_len {A : Type} {le : A → A → Bool} (a : A) : ∀ l : List A, (insL le a l).length = l.length + 1
  | [] => rfl
  | b :: l => by
    show (if le a b = true then a :: b :: l else b :: insL le a l).length = _
    split
    · rfl
    · rw [List.length_cons, ins_len a l, List.length_cons]
theorem isort_len {A : Type} {le : A → A → Bool} : ∀ l : List A, (isort le l).length = l.length
  | [] => rfl
  | a :: l => by
    show (insL le a (isort le l)).length = _
    rw [ins_len, isort_len l, List.length_cons]
theorem ins_perm {A : Type} {le : A → A → Bool} (a : A) : ∀ l : List A, (insL le a l).Perm (a :: l)
  | [] => .refl _
  | b :: l => by
    show (if le a b = true then a :: b :: l else b :: insL le a l).Perm _
    split
    · exact .refl _
    · exact ((ins_perm a l).cons b).trans (.swap a b l)
theorem isort_perm {A : Type} {le : A → A → Bool} : ∀ l : List A, (isort le l).Perm l
  | [] => .refl _
  | a :: l => (ins_perm a (isort le l)).trans ((isort_perm l).cons a)
theorem ins_up {A : Type} {le : A → A → Bool} {R : A → A → Prop} (h1 : ∀ a b, le a b = true → R a b) (h2 : ∀ a b, ¬ le a b = true → R b a) (tr : ∀ a b c, R a b → R b c → R a c) (a : A) : ∀ l : List A, l.Pairwise R → (insL le a l).Pairwise R
  | [], _ => List.pairwise_singleton R a
  | b :: l, h => by
    show (if le a b = true then a :: b :: l else b :: insL le a l).Pairwise R
    have ⟨hb, hl⟩ := List.pairwise_cons.mp h
    split
    · rename_i c
      refine List.pairwise_cons.mpr ⟨fun x hx => ?_, h⟩
      rcases List.mem_cons.mp hx with rfl | hx
      · exact h1 _ _ c
      · exact tr _ _ _ (h1 _ _ c) (hb x hx)
    · rename_i c
      refine List.pairwise_cons.mpr ⟨fun x hx => ?_, ins_up h1 h2 tr a l hl⟩
      rcases List.mem_cons.mp ((ins_perm a l).mem_iff.mp hx) with rfl | hx
      · exact h2 _ _ c
      · exact hb x hx
theorem isort_up {A : Type} {le : A → A → Bool} {R : A → A → Prop} (h1 : ∀ a b, le a b = true → R a b) (h2 : ∀ a b, ¬ le a b = true → R b a) (tr : ∀ a b c, R a b → R b c → R a c) : ∀ l : List A, (isort le l).Pairwise R
  | [] => .nil
  | a :: l => ins_up h1 h2 tr a _ (isort_up h1 h2 tr l)
def pr (p : Int × Int) : D := .tup [.int p.1, .int p.2]
def pyP (p : Int × Int) : PyData := .tuple [.int p.1, .int p.2]
def ltP (p q : Int × Int) : Prop := p.1 < q.1 ∨ (p.1 = q.1 ∧ p.2 < q.2)
instance : DecidableRel ltP := fun p q => by unfold ltP; infer_instance
def leP (p q : Int × Int) : Bool := !decide (ltP q p)
def ltL : List Int → List Int → Bool
  | [], [] => false
  | [], _ :: _ => true
  | _ :: _, [] => false
  | x :: xs, y :: ys => if x = y then ltL xs ys else decide (x < y)
theorem toks_cons (x : Int) (xs : List Int) : keyToksAll ((x :: xs).map PyData.int) = Sum.inl 1 :: Sum.inl x :: keyToksAll (xs.map PyData.int) := by
  rw [List.map_cons, keyToksAll, keyToks]; rfl
theorem ltL_toks : ∀ xs ys : List Int, PyProof.Rows.lexLt itemOrd (keyToksAll (xs.map PyData.int)) (keyToksAll (ys.map PyData.int)) = ltL xs ys
  | [], [] => (lex_self (O := itemOrd) (Sum.inl 0) [] []).trans rfl
  | [], y :: ys => by
    rw [toks_cons]
    exact lex_diff (O := itemOrd) (x := Sum.inl 0) (by simp)
  | x :: xs, [] => by
    rw [toks_cons]
    exact lex_diff (O := itemOrd) (y := Sum.inl 0) (by simp)
  | x :: xs, y :: ys => by
    rw [toks_cons, toks_cons]
    refine (lex_self (O := itemOrd) _ _ _).trans ?_
    unfold ltL
    by_cases h : x = y
    · subst h
      rw [if_pos rfl]
      exact (lex_self (O := itemOrd) _ _ _).trans (ltL_toks xs ys)
    · rw [if_neg h]
      exact lex_diff (O := itemOrd) (by simpa using h)
theorem ltL_py (xs ys : List Int) : dataLt (.tuple (xs.map .int)) (.tuple (ys.map .int)) = ltL xs ys := by
  unfold dataLt
  rw [keyToks, keyToks]
  exact ltL_toks xs ys
theorem ltP_py (p q : Int × Int) : dataLt (pyP p) (pyP q) = decide (ltP p q) := by
  refine (ltL_py [p.1, p.2] [q.1, q.2]).trans ?_
  unfold ltL ltL ltL ltP
  by_cases h : p.1 = q.1
  · rw [if_pos h]
    by_cases h2 : p.2 = q.2
    · rw [if_pos h2]; simp [h, h2]
    · rw [if_neg h2]; simp [h]
  · rw [if_neg h]; simp [h]
def srtP (J : List (Int × Int)) : List (Int × Int) := isort leP J
theorem ltP_irr (p : Int × Int) : ¬ ltP p p := by unfold ltP; omega
theorem ltP_tr {p q r : Int × Int} (h1 : ltP p q) (h2 : ltP q r) : ltP p r := by unfold ltP at *; omega
theorem ltP_as {p q : Int × Int} (h1 : ltP p q) : ¬ ltP q p := by unfold ltP at *; omega
theorem ltP_tot {p q : Int × Int} (h1 : ¬ ltP p q) (h2 : ¬ ltP q p) : p = q := by
  unfold ltP at *
  ext <;> omega
theorem srtP_perm (J : List (Int × Int)) : (srtP J).Perm J := isort_perm J
theorem srtP_len (J : List (Int × Int)) : (srtP J).length = J.length := isort_len J
theorem srtP_up (J : List (Int × Int)) : (srtP J).Pairwise fun p q => ¬ ltP q p := by
  refine isort_up (R := fun p q => ¬ ltP q p) (fun a b h => ?_) (fun a b h => ?_) (fun a b c h1 h2 h3 => ?_) J
  · unfold leP at h; simpa using h
  · unfold leP at h
    have : ltP b a := by simpa using h
    exact ltP_as this
  · unfold ltP at *
    omega
/-- a list that ascends is the sort of any order of it -/
theorem srtP_of {J K : List (Int × Int)} (h : J.Perm K) (u : J.Pairwise ltP) : srtP K = J := by
  refine ((srtP_perm K).trans h.symm).eq_of_pairwise (le := fun p q => ¬ ltP q p) (fun a b _ _ h1 h2 => (ltP_tot h1 h2).symm) (srtP_up K) (u.imp fun {a b} z => ltP_as z)
theorem srtP_same {J K : List (Int × Int)} (h : J.Perm K) : srtP J = srtP K :=
  ((srtP_perm J).trans (h.trans (srtP_perm K).symm)).eq_of_pairwise (le := fun p q => ¬ ltP q p) (fun a b _ _ h1 h2 => (ltP_tot h1 h2).symm) (srtP_up J) (srtP_up K)
theorem srtP_strict {J : List (Int × Int)} (h : J.Nodup) : (srtP J).Pairwise ltP := by
  have hn : (srtP J).Nodup := (srtP_perm J).nodup_iff.mpr h
  have := hn.and (srtP_up J)
  refine this.imp fun {a b} z => ?_
  apply Classical.byContradiction
  intro c
  exact z.1 (ltP_tot c z.2)
theorem leP_py (p q : Int × Int) : leP p q = !dataLt (pyP q) (pyP p) := by rw [ltP_py]; rfl
/-! ### sorted of any data, by a plain list -/
def srtG {A : Type} (g : A → PyData) (J : List A) : List A := isort (fun p q => !dataLt (g q) (g p)) J
section
variable {S : Sto}
theorem allSome_fg {A : Type} {f : A → D} {g : A → PyData} {k : Nat} (hp : ∀ a, pyV S k (f a) = some (g a)) : ∀ J : List A, allSome ((J.map f).map (pyV S k)) = some (J.map g)
  | [] => rfl
  | p :: J => by
    rw [List.map_cons, List.map_cons, hp]
    unfold allSome
    rw [allSome_fg hp J]; rfl
theorem allSome_fgm {A : Type} {f : A → D} {g : A → PyData} {k : Nat} : ∀ J : List A, (∀ a ∈ J, pyV S k (f a) = some (g a)) → allSome ((J.map f).map (pyV S k)) = some (J.map g)
  | [], _ => rfl
  | p :: J, hp => by
    rw [List.map_cons, List.map_cons, hp p List.mem_cons_self]
    unfold allSome
    rw [allSome_fgm J fun a ha => hp a (List.mem_cons_of_mem _ ha)]; rfl
theorem zip_fg {A : Type} {f : A → D} {g : A → PyData} : ∀ J : List A, (J.map f).zip (J.map g) = J.map fun p => (f p, g p)
  | [] => rfl
  | p :: J => by rw [List.map_cons, List.map_cons, List.zip_cons_cons, zip_fg J]; rfl
theorem sorted_fgU {A : Type} {f : A → D} {g : A → PyData} {J : List A} (hp : ∀ a, pyV S 30 (f a) = some (g a)) (ho : ordOk (J.map g) = true) : sortedX [.tup (J.map f)] S = mkLst ((srtG g J).map f) S := by
  have e0 : sortedX [.tup (J.map f)] S = sortedUD [.tup (J.map f)] S := by
    show (match sortedUD [.tup (J.map f)] S with | some r => some r | none => sortedND [.tup (J.map f)] S) = _
    cases sortedUD [.tup (J.map f)] S <;> rfl
  rw [e0]
  show (match allSome ((J.map f).map (pyV S 30)) with
    | some ys => if ordOk ys = true then mkLst ((isort dLe ((J.map f).zip ys)).map fun q : D × PyData => q.1) S else none
    | none => none) = _
  rw [allSome_fg hp]
  show (if ordOk (J.map g) = true then _ else _) = _
  rw [if_pos ho, zip_fg, ← isort_map (le := fun p q => !dataLt (g q) (g p)) (le2 := dLe) (f := fun p => (f p, g p)) (fun x y => rfl), List.map_map]
  rfl
theorem sorted_fg {A : Type} {f : A → D} {g : A → PyData} {l : Nat} {J : List A} (h : S[l]? = some (.lst (J.map f))) (hp : ∀ a, pyV S 30 (f a) = some (g a)) (ho : ordOk (J.map g) = true) (hn : J = [] ∨ asInts (J.map f) = none) : sortedX [.loc l] S = mkLst ((srtG g J).map f) S := by
  have e : lstAt S l = some (J.map f) := lstAt_eq h
  rcases hn with rfl | hn
  · unfold sortedX orP sortedD
    simp only [e]
    rfl
  have e1 : sortedD [.loc l] S = none := by
    unfold sortedD
    simp only [e, hn]
  have e2 : sortedTD [.loc l] S = mkLst ((srtG g J).map f) S := by
    unfold sortedTD
    simp only [e, allSome_fg hp, ho, if_true]
    rw [zip_fg, ← isort_map (le := fun p q => !dataLt (g q) (g p)) (le2 := dLe) (f := fun p => (f p, g p)) (fun x y => rfl), List.map_map]
    rfl
  unfold sortedX orP
  rw [e1]
  simp only [e2]
  cases mkLst ((srtG g J).map f) S <;> first | rfl | (unfold sortedUD sortedND; simp only [h])
theorem ord_prs (J : List (Int × Int)) : ordOk (J.map pyP) = true := by
  unfold ordOk
  rw [List.any_eq_true]
  refine ⟨.p .i .i, by simp [shs], ?_⟩
  rw [List.all_eq_true]
  intro x hx
  obtain ⟨p, _, rfl⟩ := List.mem_map.mp hx
  rfl
theorem srtG_prs (J : List (Int × Int)) : srtG pyP J = srtP J := by
  unfold srtG srtP
  congr 1
  funext p q
  exact (leP_py p q).symm
theorem sorted_prsU (J : List (Int × Int)) : sortedX [.tup (J.map pr)] S = mkLst ((srtP J).map pr) S := by
  rw [sorted_fgU (f := pr) (g := pyP) (fun a => rfl) (ord_prs J), srtG_prs]
theorem sorted_prsL {l : Nat} {J : List (Int × Int)} (h : S[l]? = some (.lst (J.map pr))) : sortedX [.loc l] S = mkLst ((srtP J).map pr) S := by
  rw [sorted_fg (f := pr) (g := pyP) h (fun a => rfl) (ord_prs J) ?_, srtG_prs]
  cases J with
  | nil => exact .inl rfl
  | cons p J => exact .inr rfl
theorem sorted_intsL {l : Nat} {ns : List Int} (h : S[l]? = some (.lst (ns.map D.int))) (hn : ns.length ≤ LINE) : sortedX [.loc l] S = some (.loc S.length, S ++ [.lst ((sortI ns).map .int)]) := by
  unfold sortedX orP
  rw [sorted_lst h]
  have : mkLst ((sortI ns).map D.int) S = some (.loc S.length, S ++ [.lst ((sortI ns).map .int)]) := by
    show (if ((sortI ns).map D.int).length ≤ LINE then some (D.loc S.length, S ++ [.lst ((sortI ns).map D.int)]) else none) = _
    rw [if_pos (by rw [List.length_map, (sortI_perm ns).length_eq]; exact hn)]
  rw [this]
end
/-! ### small rules -/
theorem wp_eq {A : Type} {r : Res A} {v : A} {S : Sto} (h : Wp r (fun a S' => S' = S ∧ a = v) nX) : r = .ok v S := by
  cases r with
  | ok a S' => obtain ⟨rfl, rfl⟩ := h; rfl
  | exc c fs S' => exact h.elim
  | bad => exact h.elim
theorem wp_of {A : Type} {r : Res A} {v : A} {S : Sto} {Q : A → Sto → Prop} {X : PX} (h : r = .ok v S) : Wp r Q X = Q v S := by rw [h]; rfl
theorem cut_lo {xs : List D} {k : Nat} (h : k ≤ xs.length) : cutD xs (some (k : Int)) none = xs.drop k := by
  unfold cutD
  rw [HT.sIx_none, HT.sIx_nat, Nat.min_eq_left h]
  exact List.take_of_length_le (by rw [List.length_drop]; omega)
theorem cut_hi {xs : List D} {k : Nat} (h : k ≤ xs.length) : cutD xs none (some (k : Int)) = xs.take k := by
  unfold cutD
  rw [HT.sIx_none, HT.sIx_nat, Nat.min_eq_left h]
  rfl
theorem cut_mid {xs : List D} {j k : Nat} (h : j ≤ xs.length) (h2 : k ≤ xs.length) : cutD xs (some (j : Int)) (some (k : Int)) = (xs.drop j).take (k - j) := by
  unfold cutD
  rw [HT.sIx_nat, HT.sIx_nat, Nat.min_eq_left h, Nat.min_eq_left h2]
theorem map_get {A : Type} {f : A → D} {L : List A} {i : Nat} {y : D} (h : (L.map f)[i]? = some y) : ∃ a, L[i]? = some a ∧ y = f a := by
  rw [List.getElem?_map] at h
  obtain ⟨a, h1, h2⟩ := Option.map_eq_some_iff.mp h
  exact ⟨a, h1, h2.symm⟩
theorem take_succ {A : Type} {L : List A} {i : Nat} {a : A} (h : L[i]? = some a) : L.take (i + 1) = L.take i ++ [a] := by
  rw [List.take_add_one, h]; rfl
/-! ### maps -/
def endsOf (J : List (Int × Int)) : List Int := J.flatMap fun p => [p.1, p.2]
def cD (b : Nat) (J : List (Int × Int)) : D := .tup [.int b, .tup (J.map pr)]
def mm (p : Int × Int) : Int × Int := (min p.1 p.2, max p.1 p.2)
theorem minI2 (a b : Int) : minI [a, b] = min a b := by
  have h := minI_mem (l := [a, b]) (by simp)
  have h1 := h.2 a (by simp)
  have h2 := h.2 b (by simp)
  have h3 : minI [a, b] = a ∨ minI [a, b] = b := by simpa using h.1
  omega
theorem maxI2 (a b : Int) : maxI [a, b] = max a b := by
  have h := maxI_mem (l := [a, b]) (by simp)
  have h1 := h.2 a (by simp)
  have h2 := h.2 b (by simp)
  have h3 : maxI [a, b] = a ∨ maxI [a, b] = b := by simpa using h.1
  omega
theorem endsOf_app (J K : List (Int × Int)) : endsOf (J ++ K) = endsOf J ++ endsOf K := List.flatMap_append
theorem endsOf_cons (p : Int × Int) (K : List (Int × Int)) : endsOf (p :: K) = p.1 :: p.2 :: endsOf K := rfl
theorem endsOf_len (J : List (Int × Int)) : (endsOf J).length = 2 * J.length := by
  induction J with
  | nil => rfl
  | cons p J ih => rw [endsOf_cons]; simp [ih]; omega
theorem endsOf_perm {J K : List (Int × Int)} (h : J.Perm K) : (endsOf J).Perm (endsOf K) := h.flatMap_right _
theorem endsOf_mm (J : List (Int × Int)) : (endsOf (J.map mm)).Perm (endsOf J) := by
  induction J with
  | nil => exact .refl _
  | cons p J ih =>
    rw [List.map_cons, endsOf_cons, endsOf_cons]
    have : [(mm p).1, (mm p).2].Perm [p.1, p.2] := by
      unfold mm
      by_cases h : p.1 ≤ p.2
      · rw [Int.min_eq_left h, Int.max_eq_right h]
      · rw [Int.min_eq_right (by omega), Int.max_eq_left (by omega)]
        exact .swap _ _ _
    exact this.append ih
theorem mem_endsOf {e : Int} {J : List (Int × Int)} : e ∈ endsOf J ↔ ∃ p ∈ J, e = p.1 ∨ e = p.2 := by
  unfold endsOf
  simp [List.mem_flatMap]
/-- a map: 1 to 40 blocks, joints that ascend, of ends of them, no end in two -/
structure OkM (b : Nat) (J : List (Int × Int)) : Prop where
  b1 : 1 ≤ b
  b40 : b ≤ 40
  up : J.Pairwise ltP
  fit : ∀ p ∈ J, 0 ≤ p.1 ∧ p.1 < p.2 ∧ p.2 < 2 * (b : Int)
  nd : (endsOf J).Nodup
theorem nodup_of_ends {J : List (Int × Int)} (h : (endsOf J).Nodup) : J.Nodup := by
  induction J with
  | nil => exact List.nodup_nil
  | cons p J ih =>
    rw [endsOf_cons] at h
    have ⟨h1, h2⟩ := List.nodup_cons.mp h
    have ⟨h3, h4⟩ := List.nodup_cons.mp h2
    refine List.nodup_cons.mpr ⟨fun hp => h1 (List.mem_cons_of_mem _ (mem_endsOf.mpr ⟨p, hp, .inl rfl⟩)), ih h4⟩
theorem nodup_len {A : Type} [DecidableEq A] : ∀ {l m : List A}, l.Nodup → (∀ x ∈ l, x ∈ m) → l.length ≤ m.length
  | [], _, _, _ => Nat.zero_le _
  | x :: l, m, h, hs => by
    have ⟨h1, h2⟩ := List.nodup_cons.mp h
    have hx := hs x List.mem_cons_self
    have := nodup_len (m := m.erase x) h2 fun y hy => (List.mem_erase_of_ne (show y ≠ x from fun e => h1 (by rw [← e]; exact hy))).mpr (hs y (List.mem_cons_of_mem _ hy))
    rw [List.length_erase_of_mem hx] at this
    have : 0 < m.length := List.length_pos_of_mem hx
    rw [List.length_cons]
    omega
theorem ends_le {J : List (Int × Int)} {b : Nat} (h : (endsOf J).Nodup) (f : ∀ e ∈ endsOf J, 0 ≤ e ∧ e < 2 * (b : Int)) : J.length ≤ b := by
  have h1 : (endsOf J).length ≤ ((List.range (2 * b)).map Int.ofNat).length := by
    refine nodup_len h fun e he => ?_
    have := f e he
    exact List.mem_map.mpr ⟨e.toNat, List.mem_range.mpr (by omega), by simp; omega⟩
  rw [endsOf_len, List.length_map, List.length_range] at h1
  omega
theorem OkM.ends {b : Nat} {J : List (Int × Int)} (h : OkM b J) : ∀ e ∈ endsOf J, 0 ≤ e ∧ e < 2 * (b : Int) := fun e he => by
  obtain ⟨p, hp, h1⟩ := mem_endsOf.mp he
  have := h.fit p hp
  omega
theorem OkM.len {b : Nat} {J : List (Int × Int)} (h : OkM b J) : J.length ≤ b := ends_le h.nd h.ends
/-- pairs of ends, none twice, as joints -/
theorem okM_of {b : Nat} {J : List (Int × Int)} (h1 : 1 ≤ b) (h2 : b ≤ 40) (hn : (endsOf J).Nodup) (hf : ∀ e ∈ endsOf J, 0 ≤ e ∧ e < 2 * (b : Int)) : OkM b (srtP (J.map mm)) := by
  have hp : (endsOf (srtP (J.map mm))).Perm (endsOf J) := (endsOf_perm (srtP_perm _)).trans (endsOf_mm J)
  have hn' : (endsOf (srtP (J.map mm))).Nodup := hp.nodup_iff.mpr hn
  refine ⟨h1, h2, ?_, fun p hp' => ?_, hn'⟩
  · have : (J.map mm).Nodup := nodup_of_ends ((endsOf_mm J).nodup_iff.mpr hn)
    exact srtP_strict this
  · obtain ⟨q, hq, rfl⟩ := List.mem_map.mp ((srtP_perm _).mem_iff.mp hp')
    have h3 := hf q.1 (mem_endsOf.mpr ⟨q, hq, .inl rfl⟩)
    have h4 := hf q.2 (mem_endsOf.mpr ⟨q, hq, .inr rfl⟩)
    have h5 : q.1 ≠ q.2 := by
      intro e
      obtain ⟨A, B, rfl⟩ := List.append_of_mem hq
      rw [endsOf_app, endsOf_cons] at hn
      have := (List.nodup_append.mp hn).2.1
      have := (List.nodup_cons.mp this).1
      exact this (by rw [e]; exact List.mem_cons_self)
    unfold mm
    simp only
    omega
end Jm

set_option Elab.async false
set_option linter.all false
set_option maxRecDepth 100000
set_option maxHeartbeats 4000000
/-! Jm, part Te: loops and comprehensions over any source, by its items; enumerate, zip. -/
noncomputable section
namespace Jm
open PySem PySem.Spec PyProof.Rows L2 PySem.W
section
variable {A : Type} {Q : Out → Sto → Prop} {QL : List D → Sto → Prop} {QI : Itn → Sto → Prop} {QN : En → Sto → Prop} {X : PX} {S : Sto} {n : En} {it : Itn} {g : G} {body : E Out} {t : E Bool} {elt : E D}
theorem wp_itL {items : List D} (I : Nat → En → Sto → Prop) (h0 : I 0 n S) (hk : items.length < FUEL) (hn : ∀ i n S, I i n S → it.next i S = some items[i]?)
    (hs : ∀ i x n S (T : Out → Sto → Prop), (∀ o S', T o S' = turnQ (I (i + 1)) Q o S') → items[i]? = some x → I i n S → Wp (g x n S) (fun n1 S1 => Wp (body n1 S1) T X) (fun c fs S1 => Q (.er c fs n) S1))
    (he : ∀ n S, I items.length n S → Q (.nx n) S) : Wp (loopF it g body FUEL 0 n S) Q X :=
  wp_loop items.length (fun i => items[i]?.getD .non) I h0 hk (fun i n S hi hI => by rw [hn i n S hI, List.getElem?_eq_getElem hi]; rfl) (fun n S hI => by rw [hn _ n S hI, List.getElem?_eq_none (Nat.le_refl _)])
    (fun i n S hi hI => by rw [List.getElem?_eq_getElem hi]; exact hs i _ n S _ (fun _ _ => rfl) (List.getElem?_eq_getElem hi) hI) he
theorem wp_itC {items : List D} (I : Nat → List D → Sto → Prop) (h0 : I 0 [] S) (hk : items.length < FUEL) (hn : ∀ i a S, I i a S → it.next i S = some items[i]?)
    (hs : ∀ i x a S (K : D → Sto → Prop), (∀ y S3, K y S3 = (a.length < LINE ∧ I (i + 1) (a ++ [y]) S3)) → items[i]? = some x → I i a S → Wp (g x n S) (fun n1 S1 => Wp (t n1 S1) (fun b S2 => (b = true → Wp (elt n1 S2) K X) ∧ (b = false → I (i + 1) a S2)) X) X)
    (he : ∀ a S, I items.length a S → QL a S) : Wp (lcF it g t elt n FUEL 0 [] S) QL X :=
  wp_lc items.length (fun i => items[i]?.getD .non) I h0 hk (fun i a S hi hI => by rw [hn i a S hI, List.getElem?_eq_getElem hi]; rfl) (fun a S hI => by rw [hn _ a S hI, List.getElem?_eq_none (Nat.le_refl _)])
    (fun i a S hi hI => by rw [List.getElem?_eq_getElem hi]; exact hs i _ a S _ (fun _ _ => rfl) (List.getElem?_eq_getElem hi) hI) he
/-- the items of enumerate, of zip -/
def enuD (xs : List D) : List D := xs.mapIdx fun i d => .tup [.int (i : Nat), d]
def zipD (xs ys : List D) : List D := List.zipWith (fun x y => .tup [x, y]) xs ys
theorem enuD_len (xs : List D) : (enuD xs).length = xs.length := by unfold enuD; simp
theorem enuD_get {xs : List D} {i : Nat} {y : D} (h : (enuD xs)[i]? = some y) : ∃ x, xs[i]? = some x ∧ y = .tup [.int (i : Nat), x] := by
  unfold enuD at h
  rw [List.getElem?_mapIdx] at h
  obtain ⟨a, h1, h2⟩ := Option.map_eq_some_iff.mp h
  exact ⟨a, h1, h2.symm⟩
theorem zipD_get {xs ys : List D} {i : Nat} {z : D} (h : (zipD xs ys)[i]? = some z) : ∃ x y, xs[i]? = some x ∧ ys[i]? = some y ∧ z = .tup [x, y] := by
  unfold zipD at h
  rw [List.getElem?_zipWith] at h
  cases e1 : xs[i]? with
  | none => rw [e1] at h; cases h
  | some x =>
    cases e2 : ys[i]? with
    | none => rw [e1, e2] at h; cases h
    | some y =>
      rw [e1, e2] at h
      cases h
      exact ⟨x, y, rfl, rfl, rfl⟩
theorem zipD_len (xs ys : List D) : (zipD xs ys).length = min xs.length ys.length := by unfold zipD; simp
variable {l k : Nat} {xs ys : List D} {b : Bool} {i : Nat}
theorem next_enuL (h : S[l]? = some (.lst xs)) : (Itn.enum (.dyn l)).next i S = some (enuD xs)[i]? := by
  show (lstAt S l).map _ = _
  rw [lstAt_eq h]
  unfold enuD
  rw [List.getElem?_mapIdx]; rfl
theorem next_enuT : (Itn.enum (.fix b xs)).next i S = some (enuD xs)[i]? := by
  unfold enuD
  rw [List.getElem?_mapIdx]; rfl
theorem next_zipT : (Itn.zip (.fix b xs) (.fix b ys)).next i S = some (zipD xs ys)[i]? := by
  unfold zipD
  rw [List.getElem?_zipWith]
  show (match xs[i]?, ys[i]? with
      | some x, some y => some (some (D.tup [x, y]))
      | _, _ => some none) = _
  cases xs[i]? <;> cases ys[i]? <;> rfl
theorem next_zipL (h : S[l]? = some (.lst xs)) (h2 : S[k]? = some (.lst ys)) : (Itn.zip (.dyn l) (.dyn k)).next i S = some (zipD xs ys)[i]? := by
  unfold zipD
  rw [List.getElem?_zipWith]
  show (match lstAt S l, lstAt S k with
    | some xs, some ys => (match xs[i]?, ys[i]? with
      | some x, some y => some (some (D.tup [x, y]))
      | _, _ => some none)
    | _, _ => none) = _
  rw [lstAt_eq h, lstAt_eq h2]
  show (match xs[i]?, ys[i]? with
      | some x, some y => some (some (D.tup [x, y]))
      | _, _ => some none) = _
  cases e1 : xs[i]? <;> cases e2 : ys[i]? <;> rfl
theorem wp_enuL (h : S[l]? = some (.lst xs)) : Wp (enuIt (.loc l) n S) QI X = QI (.enum (.dyn l)) S := by
  unfold enuIt
  rw [src_lst h]; rfl
theorem wp_enuT : Wp (enuIt (.tup xs) n S) QI X = QI (.enum (.fix true xs)) S := rfl
theorem wp_zipT : Wp (zipIt (.tup xs) (.tup ys) n S) QI X = QI (.zip (.fix true xs) (.fix true ys)) S := rfl
theorem wp_zipL (h : S[l]? = some (.lst xs)) (h2 : S[k]? = some (.lst ys)) : Wp (zipIt (.loc l) (.loc k) n S) QI X = QI (.zip (.dyn l) (.dyn k)) S := by
  unfold zipIt
  rw [src_lst h, src_lst h2]; rfl
/-- a list's items in some names -/
theorem wp_gTuplL {gs : List G} (h : S[l]? = some (.lst xs)) : Wp (gTupl gs (.loc l) n S) QN X = (xs.length = gs.length ∧ Wp (gAll gs xs n S) QN nX) := by
  have e : gTupl gs (.loc l) n S = (if xs.length = gs.length then nox (gAll gs xs n S) else .bad) := by
    show (match lstAt S l with | some ds => if ds.length = gs.length then nox (gAll gs ds n S) else .bad | none => .bad) = _
    rw [lstAt_eq h]
  rw [e]
  by_cases c : xs.length = gs.length
  · rw [if_pos c, wp_nox]; simp [c]
  · rw [if_neg c]; simp [c]
end
theorem eqD_int {a b : Int} {S : Sto} : eqD (.int a) (.int b) S = some (.bl (decide (a = b)), S) := by
  show some (D.bl (PyData.eqv (.int a) (.int b)), S) = _
  have : PyData.eqv (.int a) (.int b) = decide (a = b) := by
    show (a == b) = _
    rfl
  rw [this]
@[simp] theorem ltX_int {a b : Int} {S : Sto} : ltX (.int a) (.int b) S = some (.bl (decide (a < b)), S) := rfl
@[simp] theorem idx_t0 {x : D} {xs : List D} {S : Sto} : idxD (.tup (x :: xs)) (.int 0) S = some (x, S) := idx_tup (atI_nat (j := 0) rfl)
@[simp] theorem idx_t1 {x y : D} {xs : List D} {S : Sto} : idxD (.tup (x :: y :: xs)) (.int 1) S = some (y, S) := idx_tup (atI_nat (j := 1) rfl)
@[simp] theorem idx_t2 {x y z : D} {xs : List D} {S : Sto} : idxD (.tup (x :: y :: z :: xs)) (.int 2) S = some (z, S) := idx_tup (atI_nat (j := 2) rfl)
/-! ### ints in a row -/
def rgI (k : Nat) : List Int := (List.range k).map Int.ofNat
theorem rgD_eq (k : Nat) : rgD k = (rgI k).map D.int := by
  unfold rgD rgI
  rw [List.map_map]; rfl
theorem rgI_len (k : Nat) : (rgI k).length = k := by simp [rgI]
theorem rgI_nd (k : Nat) : (rgI k).Nodup := by
  unfold rgI
  refine List.Pairwise.map _ (fun a b h => ?_) List.nodup_range
  exact fun e => h (Int.ofNat.inj e)
theorem mem_rgI {k : Nat} {e : Int} : e ∈ rgI k ↔ 0 ≤ e ∧ e < k := by
  unfold rgI
  rw [List.mem_map]
  constructor
  · rintro ⟨a, h, rfl⟩
    have := List.mem_range.mp h
    exact ⟨Int.natCast_nonneg a, by exact Int.ofNat_lt.mpr this⟩
  · rintro ⟨h1, h2⟩
    exact ⟨e.toNat, List.mem_range.mpr (by omega), Int.toNat_of_nonneg h1⟩
theorem wp_lstRgI {k : Nat} {S : Sto} {QD : D → Sto → Prop} {X : PX} (h : k ≤ 1000000) : Wp (lft (lstRg (.int (k : Nat)) S)) QD X = QD (.loc S.length) (S ++ [.lst ((rgI k).map D.int)]) := by
  rw [wp_lstRg (by omega), Int.toNat_natCast, rgD_eq]
/-! ### the other end of a block -/
def tw (e : Int) : Int := if e % 2 = 0 then e + 1 else e - 1
theorem xor_small : ∀ n : Nat, n < 200 → Builtin.bitXor (n : Int) 1 = tw n := by decide +kernel
theorem xor_one {e : Int} (h : 0 ≤ e) (h2 : e < 200) : Builtin.bitXor e 1 = tw e := by
  have := xor_small e.toNat (by omega)
  rw [Int.toNat_of_nonneg h] at this
  exact this
theorem nodup_at {A : Type} {l : List A} (h : l.Nodup) {i j : Nat} {a : A} (h1 : l[i]? = some a) (h2 : l[j]? = some a) : i = j := by
  obtain ⟨l1, e1⟩ := List.getElem?_eq_some_iff.mp h1
  obtain ⟨l2, e2⟩ := List.getElem?_eq_some_iff.mp h2
  have hp := List.pairwise_iff_getElem.mp h
  rcases Nat.lt_trichotomy i j with c | c | c
  · exact absurd (e1.trans e2.symm) (hp i j l1 l2 c)
  · exact c
  · exact absurd (e2.trans e1.symm) (hp j i l2 l1 c)
end Jm

set_option Elab.async false
set_option linter.all false
set_option maxRecDepth 100000
set_option maxHeartbeats 4000000
/-! Jm, part Ub: maps, plainly: partners, free ends. -/
noncomputable section
namespace Jm
open PySem PySem.Spec PyProof.Rows L2 PySem.W
theorem snoc_rec {A : Type} {P : List A → Prop} (h0 : P []) (h1 : ∀ l a, P l → P (l ++ [a])) (l : List A) : P l := by
  have : ∀ r : List A, P r.reverse := fun r => by
    induction r with
    | nil => exact h0
    | cons a r ih => rw [List.reverse_cons]; exact h1 _ _ ih
  have := this l.reverse
  rwa [List.reverse_reverse] at this
def parS (e : Int) (o : Option Int) (p : Int × Int) : Option Int := if p.2 = e then some p.1 else if p.1 = e then some p.2 else o
def par (J : List (Int × Int)) (e : Int) : Option Int := J.foldl (parS e) none
theorem par_nil (e : Int) : par [] e = none := rfl
theorem par_app (J : List (Int × Int)) (p : Int × Int) (e : Int) : par (J ++ [p]) e = if p.2 = e then some p.1 else if p.1 = e then some p.2 else par J e := by
  unfold par
  rw [List.foldl_append]; rfl
theorem par_none {J : List (Int × Int)} {e : Int} : par J e = none ↔ e ∉ endsOf J := by
  induction J using snoc_rec with
  | h0 => simp [par_nil, endsOf]
  | h1 J p ih =>
    rw [par_app, endsOf_app, List.mem_append]
    by_cases h2 : p.2 = e
    · rw [if_pos h2]
      simp [endsOf, h2]
    · rw [if_neg h2]
      by_cases h1 : p.1 = e
      · rw [if_pos h1]
        simp [endsOf, h1]
      · rw [if_neg h1, ih]
        simp [endsOf, Ne.symm h1, Ne.symm h2]
theorem par_some {J : List (Int × Int)} (hn : (endsOf J).Nodup) {e v : Int} : par J e = some v ↔ (e, v) ∈ J ∨ (v, e) ∈ J := by
  induction J using snoc_rec with
  | h0 => simp [par_nil]
  | h1 J p ih =>
    rw [endsOf_app] at hn
    have ⟨n1, n2, n3⟩ := List.nodup_append.mp hn
    have d1 : ∀ x ∈ endsOf J, x ≠ p.1 ∧ x ≠ p.2 := fun x hx => ⟨n3 x hx p.1 (by simp [endsOf]), n3 x hx p.2 (by simp [endsOf])⟩
    have d2 : p.1 ≠ p.2 := by simpa [endsOf] using n2
    have ih := ih n1
    obtain ⟨a, c⟩ := p
    simp only at d1 d2
    rw [par_app]
    simp only [List.mem_append, List.mem_singleton, Prod.mk.injEq]
    by_cases h2 : c = e
    · subst h2
      rw [if_pos rfl]
      constructor
      · intro h
        cases h
        exact .inr (.inr ⟨rfl, rfl⟩)
      · rintro ((h | ⟨h, _⟩) | (h | ⟨h, _⟩))
        · exact absurd rfl (d1 c (mem_endsOf.mpr ⟨_, h, .inl rfl⟩)).2
        · exact absurd h.symm d2
        · exact absurd rfl (d1 c (mem_endsOf.mpr ⟨_, h, .inr rfl⟩)).2
        · rw [h]
    · rw [if_neg h2]
      by_cases h1 : a = e
      · subst h1
        rw [if_pos rfl]
        constructor
        · intro h
          cases h
          exact .inl (.inr ⟨rfl, rfl⟩)
        · rintro ((h | ⟨_, h⟩) | (h | ⟨h, h'⟩))
          · exact absurd rfl (d1 a (mem_endsOf.mpr ⟨_, h, .inl rfl⟩)).1
          · rw [h]
          · exact absurd rfl (d1 a (mem_endsOf.mpr ⟨_, h, .inr rfl⟩)).1
          · exact absurd h'.symm h2
      · rw [if_neg h1, ih]
        constructor
        · rintro (h | h)
          · exact .inl (.inl h)
          · exact .inr (.inl h)
        · rintro ((h | ⟨h, _⟩) | (h | ⟨_, h⟩))
          · exact .inl h
          · exact absurd h.symm h1
          · exact .inr h
          · exact absurd h.symm h2
def parD (o : Option Int) : D := match o with
  | none => .non
  | some v => .int v
/-- the table of partners -/
def tabOf (b : Nat) (J : List (Int × Int)) : List D := (rgI (2 * b)).map fun e => parD (par J e)
theorem tabOf_len (b : Nat) (J : List (Int × Int)) : (tabOf b J).length = 2 * b := by unfold tabOf; rw [List.length_map, rgI_len]
theorem rgI_get {k i : Nat} (h : i < k) : (rgI k)[i]? = some (i : Int) := by
  unfold rgI
  rw [List.getElem?_map, List.getElem?_range h]; rfl
theorem tab_get {b : Nat} {J : List (Int × Int)} {e : Int} (h : 0 ≤ e ∧ e < 2 * (b : Int)) : (tabOf b J)[e.toNat]? = some (parD (par J e)) := by
  unfold tabOf
  rw [List.getElem?_map, rgI_get (by omega), Option.map_some, Int.toNat_of_nonneg h.1]
theorem tab_zero (b : Nat) : tabOf b [] = List.replicate (2 * b) .non := by
  rw [List.eq_replicate_iff]
  refine ⟨tabOf_len b [], fun x hx => ?_⟩
  obtain ⟨e, _, rfl⟩ := List.mem_map.mp hx
  rfl
theorem tab_put {b : Nat} {J : List (Int × Int)} {p : Int × Int} (h1 : 0 ≤ p.1 ∧ p.1 < 2 * (b : Int)) (h2 : 0 ≤ p.2 ∧ p.2 < 2 * (b : Int)) : ((tabOf b J).set p.1.toNat (.int p.2)).set p.2.toNat (.int p.1) = tabOf b (J ++ [p]) := by
  apply List.ext_getElem?
  intro i
  by_cases hi : i < 2 * b
  · rw [List.getElem?_set, List.getElem?_set]
    have e1 : (tabOf b J)[i]? = some (parD (par J i)) := by
      have := tab_get (b := b) (J := J) (e := (i : Int)) (by omega)
      rwa [Int.toNat_natCast] at this
    have e2 : (tabOf b (J ++ [p]))[i]? = some (parD (par (J ++ [p]) i)) := by
      have := tab_get (b := b) (J := J ++ [p]) (e := (i : Int)) (by omega)
      rwa [Int.toNat_natCast] at this
    rw [e1, e2, par_app, List.length_set, tabOf_len]
    by_cases c2 : p.2.toNat = i
    · rw [if_pos c2, if_pos (by omega), if_pos (show p.2 = (i : Int) by omega)]; rfl
    · rw [if_neg c2, if_neg (show ¬ p.2 = (i : Int) by omega)]
      by_cases c1 : p.1.toNat = i
      · rw [if_pos c1, if_pos (by omega), if_pos (show p.1 = (i : Int) by omega)]; rfl
      · rw [if_neg c1, if_neg (show ¬ p.1 = (i : Int) by omega)]
  · rw [List.getElem?_eq_none (by rw [List.length_set, List.length_set, tabOf_len]; omega), List.getElem?_eq_none (by rw [tabOf_len]; omega)]
/-- the free ends -/
def fre (b : Nat) (J : List (Int × Int)) : List Int := (rgI (2 * b)).filter fun e => decide (par J e = none)
theorem mem_fre {b : Nat} {J : List (Int × Int)} {e : Int} : e ∈ fre b J ↔ (0 ≤ e ∧ e < 2 * (b : Int)) ∧ e ∉ endsOf J := by
  unfold fre
  rw [List.mem_filter, mem_rgI, decide_eq_true_eq, par_none]
  constructor
  · rintro ⟨h1, h2⟩; exact ⟨by omega, h2⟩
  · rintro ⟨h1, h2⟩; exact ⟨by omega, h2⟩
theorem mul_rep {S : Sto} {l k : Nat} {x : D} (h : S[l]? = some (.lst [x])) (hk : k ≤ 1000000) : mulD (.loc l) (.int (k : Nat)) S = mkLst (List.replicate k x) S := by
  show (match lstAt S l with
    | some xs => if -(2 ^ 63) ≤ (k : Int) ∧ (k : Int) < 2 ^ 63 ∧ xs.length * (k : Int).toNat ≤ LINE then mkLst (List.replicate (k : Int).toNat xs).flatten S else none
    | none => none) = _
  rw [lstAt_eq h]
  have e : (List.replicate (k : Int).toNat [x]).flatten = List.replicate k x := by
    rw [Int.toNat_natCast]
    induction k with
    | zero => rfl
    | succ k ih => rw [List.replicate_succ, List.flatten_cons, ih (by omega), List.replicate_succ]; rfl
  show (if -(2 ^ 63) ≤ (k : Int) ∧ (k : Int) < 2 ^ 63 ∧ [x].length * (k : Int).toNat ≤ LINE then mkLst (List.replicate (k : Int).toNat [x]).flatten S else none) = _
  rw [if_pos ⟨by omega, by omega, by unfold LINE; simp; omega⟩, e]
theorem put_int {S : Sto} {l : Nat} {xs : List D} {a : Int} {y : D} (h : S[l]? = some (.lst xs)) (ha : 0 ≤ a ∧ a < xs.length) : putD (.loc l) (.int a) y S = some (S.set l (.lst (xs.set a.toNat y))) := by
  obtain ⟨k, rfl⟩ : ∃ k : Nat, a = k := ⟨a.toNat, by omega⟩
  rw [put_lst h (by omega)]; rfl
theorem get_int {S : Sto} {l : Nat} {xs : List D} {a : Int} {y : D} (h : S[l]? = some (.lst xs)) (h0 : 0 ≤ a) (ha : xs[a.toNat]? = some y) : idxD (.loc l) (.int a) S = some (y, S) := by
  obtain ⟨k, rfl⟩ : ∃ k : Nat, a = k := ⟨a.toNat, by omega⟩
  exact idx_lst h (atI_nat ha)
theorem tab_at {S : Sto} {l b : Nat} {J : List (Int × Int)} {e : Int} (h : S[l]? = some (.lst (tabOf b J))) (he : 0 ≤ e ∧ e < 2 * (b : Int)) : idxD (.loc l) (.int e) S = some (parD (par J e), S) := get_int h he.1 (tab_get he)
/-! ### what data are, whatever the store -/
def Py {A : Type} (f : A → D) (g : A → PyData) (n : Nat) : Prop := ∀ (S : Sto) (k : Nat) (a : A), pyV S (k + n) (f a) = some (g a)
def Ev {A : Type} [DecidableEq A] (g : A → PyData) : Prop := ∀ a b, PyData.eqv (g a) (g b) = decide (a = b)
theorem Py.at {A : Type} {f : A → D} {g : A → PyData} {n m : Nat} (h : Py f g n) (hm : n ≤ m) (S : Sto) (a : A) : pyV S m (f a) = some (g a) := by
  obtain ⟨k, rfl⟩ : ∃ k, m = k + n := ⟨m - n, by omega⟩
  exact h S k a
theorem py_i : Py D.int PyData.int 1 := fun S k a => rfl
theorem py_p : Py pr pyP 2 := fun S k a => rfl
def tupL {A : Type} (f : A → D) (L : List A) : D := .tup (L.map f)
def tupG {A : Type} (g : A → PyData) (L : List A) : PyData := .tuple (L.map g)
theorem py_t {A : Type} {f : A → D} {g : A → PyData} {n : Nat} (h : Py f g n) : Py (tupL f) (tupG g) (n + 1) := fun S k L => by
  show (allSome ((L.map f).map (pyV S (k + n)))).map PyData.tuple = _
  rw [allSome_fg fun a => h S k a]; rfl
theorem ev_i : Ev PyData.int := fun a b => rfl
theorem eqvAll_fg {A : Type} [DecidableEq A] {g : A → PyData} (h : Ev g) : ∀ as bs : List A, PyData.eqvAll (as.map g) (bs.map g) = decide (as = bs)
  | [], [] => rfl
  | [], b :: bs => rfl
  | a :: as, [] => rfl
  | a :: as, b :: bs => by
    rw [List.map_cons, List.map_cons, PyData.eqvAll, h, eqvAll_fg h as bs]
    by_cases e1 : a = b <;> by_cases e2 : as = bs <;> simp [e1, e2]
theorem ev_t {A : Type} [DecidableEq A] {g : A → PyData} (h : Ev g) : Ev (tupG g) := fun as bs => eqvAll_fg h as bs
theorem ev_p : Ev pyP := fun p q => by
  show PyData.eqvAll ([p.1, p.2].map PyData.int) ([q.1, q.2].map PyData.int) = _
  rw [eqvAll_fg ev_i]
  rw [decide_eq_decide]
  constructor
  · intro h
    simp at h
    exact Prod.ext h.1 h.2
  · rintro rfl; rfl
section
variable {A : Type} [DecidableEq A] {f : A → D} {g : A → PyData} {n : Nat} {S : Sto} {l k : Nat} {a b : A} {as bs : List A}
theorem any_fg (h : Ev g) (a : A) : ∀ bs : List A, ((bs.map g).any fun z => PyData.eqv z (g a)) = decide (a ∈ bs)
  | [] => rfl
  | b :: bs => by
    rw [List.map_cons, List.any_cons, h, any_fg h a bs]
    by_cases e1 : a = b
    · subst e1; simp
    · simp [e1, Ne.symm e1]
theorem eq_fg (h : Py f g n) (e : Ev g) (hn : n ≤ 64) : eqD (f a) (f b) S = some (.bl (decide (a = b)), S) := by
  unfold eqD
  rw [h.at hn, h.at hn, ← e]
theorem ne_fg (h : Py f g n) (e : Ev g) (hn : n ≤ 64) : neD (f a) (f b) S = some (.bl (!decide (a = b)), S) := by
  unfold neD
  rw [h.at hn, h.at hn, ← e]
theorem mem_fgT (h : Py f g n) (e : Ev g) (hn : n ≤ 60) : memD (f a) (.tup (bs.map f)) S = some (decide (a ∈ bs)) := by
  show (match pyV S 64 (f a), pyV S 64 (tupL f bs) with
    | some a, some (.tuple bs) => some (bs.any fun z => PyData.eqv z a)
    | some a, some (.list bs) => some (bs.any fun z => PyData.eqv z a)
    | _, _ => memKN (f a) (tupL f bs) S) = _
  rw [h.at (by omega), (py_t h).at (by omega)]
  show some ((bs.map g).any fun z => PyData.eqv z (g a)) = _
  rw [any_fg e]
theorem mem_fgL (h : Py f g n) (e : Ev g) (hn : n ≤ 60) (hl : S[l]? = some (.lst (bs.map f))) : memD (f a) (.loc l) S = some (decide (a ∈ bs)) := by
  have e2 : pyV S 64 (.loc l) = some (.list (bs.map g)) := by
    show (match lstAt S l with
      | some xs => (allSome (xs.map (pyV S 63))).map PyData.list
      | none => none) = _
    rw [lstAt_eq hl]
    show (allSome ((bs.map f).map (pyV S 63))).map PyData.list = _
    rw [allSome_fg fun a => h.at (by omega) S a]; rfl
  show (match pyV S 64 (f a), pyV S 64 (.loc l) with
    | some a, some (.tuple bs) => some (bs.any fun z => PyData.eqv z a)
    | some a, some (.list bs) => some (bs.any fun z => PyData.eqv z a)
    | _, _ => memKN (f a) (.loc l) S) = _
  rw [h.at (by omega), e2]
  show some ((bs.map g).any fun z => PyData.eqv z (g a)) = _
  rw [any_fg e]
theorem in_fgT (h : Py f g n) (e : Ev g) (hn : n ≤ 60) [ins : Decidable (a ∈ bs)] : inD (f a) (.tup (bs.map f)) S = some (.bl (@decide (a ∈ bs) ins), S) := by
  unfold inD; rw [mem_fgT h e hn]
  exact congrArg (fun b => some (D.bl b, S)) (decide_eq_decide.mpr Iff.rfl)
theorem nin_fgT (h : Py f g n) (e : Ev g) (hn : n ≤ 60) [ins : Decidable (a ∈ bs)] : notInD (f a) (.tup (bs.map f)) S = some (.bl (!@decide (a ∈ bs) ins), S) := by
  unfold notInD; rw [mem_fgT h e hn]
  exact congrArg (fun b => some (D.bl (!b), S)) (decide_eq_decide.mpr Iff.rfl)
theorem in_fgL (h : Py f g n) (e : Ev g) (hn : n ≤ 60) (hl : S[l]? = some (.lst (bs.map f))) [ins : Decidable (a ∈ bs)] : inD (f a) (.loc l) S = some (.bl (@decide (a ∈ bs) ins), S) := by
  unfold inD; rw [mem_fgL h e hn hl]
  exact congrArg (fun b => some (D.bl b, S)) (decide_eq_decide.mpr Iff.rfl)
theorem nin_fgL (h : Py f g n) (e : Ev g) (hn : n ≤ 60) (hl : S[l]? = some (.lst (bs.map f))) [ins : Decidable (a ∈ bs)] : notInD (f a) (.loc l) S = some (.bl (!@decide (a ∈ bs) ins), S) := by
  unfold notInD; rw [mem_fgL h e hn hl]
  exact congrArg (fun b => some (D.bl (!b), S)) (decide_eq_decide.mpr Iff.rfl)
theorem eq_fgL (h : Py f g n) (e : Ev g) (hn : n ≤ 60) (hl : S[l]? = some (.lst (as.map f))) (hk : S[k]? = some (.lst (bs.map f))) : eqD (.loc l) (.loc k) S = some (.bl (decide (as = bs)), S) := by
  have e2 : ∀ (j : Nat) (cs : List A), S[j]? = some (.lst (cs.map f)) → pyV S 64 (.loc j) = some (.list (cs.map g)) := fun j cs hj => by
    show (match lstAt S j with
      | some xs => (allSome (xs.map (pyV S 63))).map PyData.list
      | none => none) = _
    rw [lstAt_eq hj]
    show (allSome ((cs.map f).map (pyV S 63))).map PyData.list = _
    rw [allSome_fg fun a => h.at (by omega) S a]; rfl
  unfold eqD
  rw [e2 l as hl, e2 k bs hk]
  show some (D.bl (PyData.eqvAll (as.map g) (bs.map g)), S) = _
  rw [eqvAll_fg e]
end
theorem ltX_pr {p q : Int × Int} {S : Sto} : ltX (pr p) (pr q) S = some (.bl (decide (ltP p q)), S) := by
  rw [← ltP_py]; rfl
end Jm

set_option Elab.async false
set_option linter.all false
set_option maxRecDepth 100000
set_option maxHeartbeats 4000000
/-! Jm, part Tr: things of any kind as trees; stores that grow and whose dicts may be frozen. -/
noncomputable section
namespace Jm
open PySem PySem.Spec PyProof.Rows L2
/-! ### stores -/
/-- what is at a place stays, or is a dict that is frozen -/
def Kept (o : O) (r : Option O) : Prop := r = some o ∨ ∃ kvs, o = .dct kvs ∧ r = some (.dctZ kvs)
theorem Kept.lst {xs : List D} {r : Option O} (h : Kept (.lst xs) r) : r = some (.lst xs) := by
  rcases h with h | ⟨kvs, h, _⟩
  · exact h
  · cases h
/-- all but the place p are kept -/
def Mz (p : Nat) (S S' : Sto) : Prop := S.length ≤ S'.length ∧ ∀ k o, k ≠ p → S[k]? = some o → Kept o S'[k]?
section
variable {p l : Nat} {S S' S'' : Sto}
theorem Mz.rfl' : Mz p S S := ⟨Nat.le_refl _, fun k o n h => .inl h⟩
theorem Mz.of_mod (h : Mod p S S') : Mz p S S' := ⟨h.1, fun k o n e => .inl (h.2 k o n e)⟩
theorem Mz.of_ext (h : Ext S S') : Mz p S S' := .of_mod (.of h)
theorem Mz.trans (a : Mz p S S') (b : Mz p S' S'') : Mz p S S'' := ⟨Nat.le_trans a.1 b.1, fun k o n e => by
  rcases a.2 k o n e with h | ⟨kvs, rfl, h⟩
  · exact b.2 k o n h
  · rcases b.2 k _ n h with h2 | ⟨kvs2, e2, _⟩
    · exact .inr ⟨kvs, rfl, h2⟩
    · cases e2⟩
theorem Mz.ext (a : Mz p S S') (b : Ext S' S'') : Mz p S S'' := a.trans (.of_ext b)
theorem Mz.app {G : Sto} (a : Mz p S S') : Mz p S (S' ++ G) := a.ext (List.prefix_append ..)
theorem Mz.lst (a : Mz p S S') {k : Nat} {xs : List D} (n : k ≠ p) (h : S[k]? = some (.lst xs)) : S'[k]? = some (.lst xs) := (a.2 k _ n h).lst
/-- a new object changes -/
theorem Mz.setn {o : O} (a : Mz p S S') (h : S.length ≤ l) : Mz p S (S'.set l o) := ⟨by rw [List.length_set]; exact a.1, fun k o' n e => by
  have := (List.getElem?_eq_some_iff.mp e).1
  rw [List.getElem?_set_ne (by omega)]
  exact a.2 k o' n e⟩
theorem Mz.frz {kvs : List (Key × D)} (a : Mz p S S') (h : S'[l]? = some (.dct kvs)) : Mz p S (S'.set l (.dctZ kvs)) := a.trans ⟨by rw [List.length_set]; exact Nat.le_refl _, fun k o n e => by
  by_cases hk : l = k
  · subst hk
    rw [h] at e
    cases e
    exact .inr ⟨kvs, rfl, by rw [List.getElem?_set_self (List.getElem?_eq_some_iff.mp h).1]⟩
  · rw [List.getElem?_set_ne hk]; exact .inl e⟩
end
/-! ### trees -/
inductive Tr where
  | non | bl (b : Bool) | int (i : Int) | str (x : Str) | tup (xs : List Tr) | lst (xs : List Tr) | dct (kvs : List (Key × Tr))
/-- no list, tuple or dict -/
def Tr.sc : Tr → Bool
  | .tup _ => false
  | .lst _ => false
  | .dct _ => false
  | _ => true
/-- where things may lie: not at the place l, nor below the place q -/
structure Px where
  l : Nat
  q : Nat
instance : Coe Px Nat := ⟨Px.l⟩
structure Px.ok (p : Px) (k : Nat) : Prop where
  ne : k ≠ p.l
  ge : p.q ≤ k
mutual
/-- a value is a tree; the values of dicts are scalars; nothing of it lies at the place p -/
inductive Tt (p : Px) (S : Sto) : Tr → D → Prop
  | non : Tt p S .non .non
  | bl (b : Bool) : Tt p S (.bl b) (.bl b)
  | int (i : Int) : Tt p S (.int i) (.int i)
  | str {x : Str} : PyData.strOk x = true → Tt p S (.str x) (.str x)
  | tup {ts : List Tr} {ds : List D} : ds.length ≤ 1000 → Tts p S ts ds → Tt p S (.tup ts) (.tup ds)
  | lst {ts : List Tr} {ds : List D} {k : Nat} : ds.length ≤ 1000 → p.ok k → S[k]? = some (.lst ds) → Tts p S ts ds → Tt p S (.lst ts) (.loc k)
  | dct {ts : List (Key × Tr)} {kvs : List (Key × D)} {k : Nat} : kvs.length ≤ 1000 → (kvs.map (·.1)).Nodup → (∀ x ∈ ts, x.2.sc = true) → p.ok k → (S[k]? = some (.dct kvs) ∨ S[k]? = some (.dctZ kvs)) → Ttk p S ts kvs → Tt p S (.dct ts) (.loc k)
inductive Tts (p : Px) (S : Sto) : List Tr → List D → Prop
  | nil : Tts p S [] []
  | cons {t : Tr} {d : D} {ts : List Tr} {ds : List D} : Tt p S t d → Tts p S ts ds → Tts p S (t :: ts) (d :: ds)
inductive Ttk (p : Px) (S : Sto) : List (Key × Tr) → List (Key × D) → Prop
  | nil : Ttk p S [] []
  | cons {k : Key} {t : Tr} {d : D} {ts : List (Key × Tr)} {ds : List (Key × D)} : Tt p S t d → Ttk p S ts ds → Ttk p S ((k, t) :: ts) ((k, d) :: ds)
end
mutual
def Tr.dep : Tr → Nat
  | .tup xs => Tr.deps xs + 1
  | .lst xs => Tr.deps xs + 1
  | .dct kvs => Tr.depk kvs + 1
  | _ => 1
def Tr.deps : List Tr → Nat
  | [] => 0
  | t :: ts => max t.dep (Tr.deps ts)
def Tr.depk : List (Key × Tr) → Nat
  | [] => 0
  | (_, t) :: ts => max t.dep (Tr.depk ts)
end
section
variable {p : Px} {S S' : Sto}
mutual
theorem Tt.keep (m : ∀ k o, p.ok k → S[k]? = some o → Kept o S'[k]?) : ∀ {t : Tr} {d : D}, Tt p S t d → Tt p S' t d
  | _, _, .non => .non
  | _, _, .bl b => .bl b
  | _, _, .int i => .int i
  | _, _, .str h => .str h
  | _, _, .tup h r => .tup h (Tts.keep m r)
  | _, _, .lst h n e r => .lst h n (m _ _ n e).lst (Tts.keep m r)
  | _, _, .dct h nd sc n e r => .dct h nd sc n (by
    rcases e with e | e
    · rcases m _ _ n e with h | ⟨kvs, e2, h⟩
      · exact .inl h
      · cases e2; exact .inr h
    · rcases m _ _ n e with h | ⟨kvs, e2, h⟩
      · exact .inr h
      · cases e2) (Ttk.keep m r)
theorem Tts.keep (m : ∀ k o, p.ok k → S[k]? = some o → Kept o S'[k]?) : ∀ {ts : List Tr} {ds : List D}, Tts p S ts ds → Tts p S' ts ds
  | _, _, .nil => .nil
  | _, _, .cons r rs => .cons (Tt.keep m r) (Tts.keep m rs)
theorem Ttk.keep (m : ∀ k o, p.ok k → S[k]? = some o → Kept o S'[k]?) : ∀ {ts : List (Key × Tr)} {ds : List (Key × D)}, Ttk p S ts ds → Ttk p S' ts ds
  | _, _, .nil => .nil
  | _, _, .cons r rs => .cons (Tt.keep m r) (Ttk.keep m rs)
end
theorem Tt.mono (m : Mz p S S') {t : Tr} {d : D} (h : Tt p S t d) : Tt p S' t d := h.keep fun k o n e => m.2 k o n.ne e
theorem Tts.mono (m : Mz p S S') {ts : List Tr} {ds : List D} (h : Tts p S ts ds) : Tts p S' ts ds := h.keep fun k o n e => m.2 k o n.ne e
theorem Ttk.mono (m : Mz p S S') {ts : List (Key × Tr)} {ds : List (Key × D)} (h : Ttk p S ts ds) : Ttk p S' ts ds := h.keep fun k o n e => m.2 k o n.ne e
theorem Tts.len : ∀ {ts : List Tr} {ds : List D}, Tts p S ts ds → ts.length = ds.length
  | _, _, .nil => rfl
  | _, _, .cons _ r => congrArg (· + 1) r.len
theorem Tts.get : ∀ {ts : List Tr} {ds : List D}, Tts p S ts ds → ∀ {i : Nat} {d : D}, ds[i]? = some d → ∃ t, ts[i]? = some t ∧ Tt p S t d
  | _, _, .nil, i, d, h => by simp at h
  | _, _, .cons r _, 0, d, h => by simp at h; subst h; exact ⟨_, rfl, r⟩
  | _, _, .cons _ rs, i + 1, d, h => by
    obtain ⟨t, h1, h2⟩ := rs.get (i := i) (d := d) (by simpa using h)
    exact ⟨t, by simpa using h1, h2⟩
theorem Tts.get' : ∀ {ts : List Tr} {ds : List D}, Tts p S ts ds → ∀ {i : Nat} {t : Tr}, ts[i]? = some t → ∃ d, ds[i]? = some d ∧ Tt p S t d
  | _, _, .nil, i, d, h => by simp at h
  | _, _, .cons r _, 0, d, h => by simp at h; subst h; exact ⟨_, rfl, r⟩
  | _, _, .cons _ rs, i + 1, d, h => by
    obtain ⟨t, h1, h2⟩ := rs.get' (i := i) (t := d) (by simpa using h)
    exact ⟨t, by simpa using h1, h2⟩
theorem Tts.snoc : ∀ {ts : List Tr} {ds : List D} {t : Tr} {d : D}, Tts p S ts ds → Tt p S t d → Tts p S (ts ++ [t]) (ds ++ [d])
  | _, _, _, _, .nil, h => .cons h .nil
  | _, _, _, _, .cons r rs, h => .cons r (rs.snoc h)
theorem Tts.app : ∀ {ts us : List Tr} {ds es : List D}, Tts p S ts ds → Tts p S us es → Tts p S (ts ++ us) (ds ++ es)
  | _, _, _, _, .nil, h => h
  | _, _, _, _, .cons r rs, h => .cons r (rs.app h)
theorem Ttk.len : ∀ {ts : List (Key × Tr)} {ds : List (Key × D)}, Ttk p S ts ds → ts.length = ds.length
  | _, _, .nil => rfl
  | _, _, .cons _ r => congrArg (· + 1) r.len
theorem Ttk.keys : ∀ {ts : List (Key × Tr)} {ds : List (Key × D)}, Ttk p S ts ds → ts.map (·.1) = ds.map (·.1)
  | _, _, .nil => rfl
  | _, _, .cons _ r => by rw [List.map_cons, List.map_cons, r.keys]
theorem Ttk.get : ∀ {ts : List (Key × Tr)} {ds : List (Key × D)}, Ttk p S ts ds → ∀ {i : Nat} {k : Key} {d : D}, ds[i]? = some (k, d) → ∃ t, ts[i]? = some (k, t) ∧ Tt p S t d
  | _, _, .nil, i, k, d, h => by simp at h
  | _, _, .cons r _, 0, k, d, h => by simp at h; obtain ⟨rfl, rfl⟩ := h; exact ⟨_, rfl, r⟩
  | _, _, .cons _ rs, i + 1, k, d, h => by
    obtain ⟨t, h1, h2⟩ := rs.get (i := i) (k := k) (d := d) (by simpa using h)
    exact ⟨t, by simpa using h1, h2⟩
theorem Ttk.get' : ∀ {ts : List (Key × Tr)} {ds : List (Key × D)}, Ttk p S ts ds → ∀ {i : Nat} {k : Key} {t : Tr}, ts[i]? = some (k, t) → ∃ d, ds[i]? = some (k, d) ∧ Tt p S t d
  | _, _, .nil, i, k, d, h => by simp at h
  | _, _, .cons r _, 0, k, d, h => by simp at h; obtain ⟨rfl, rfl⟩ := h; exact ⟨_, rfl, r⟩
  | _, _, .cons _ rs, i + 1, k, d, h => by
    obtain ⟨t, h1, h2⟩ := rs.get' (i := i) (k := k) (t := d) (by simpa using h)
    exact ⟨t, by simpa using h1, h2⟩
theorem Ttk.snoc : ∀ {ts : List (Key × Tr)} {ds : List (Key × D)} {k : Key} {t : Tr} {d : D}, Ttk p S ts ds → Tt p S t d → Ttk p S (ts ++ [(k, t)]) (ds ++ [(k, d)])
  | _, _, _, _, _, .nil, h => .cons h .nil
  | _, _, _, _, _, .cons r rs, h => .cons r (rs.snoc h)
theorem dep_at : ∀ {ts : List Tr} {i : Nat} {t : Tr}, ts[i]? = some t → t.dep ≤ Tr.deps ts
  | [], i, t, h => by simp at h
  | x :: ts, 0, t, h => by simp at h; subst h; show _ ≤ max _ _; omega
  | x :: ts, i + 1, t, h => by
    have := dep_at (ts := ts) (i := i) (t := t) (by simpa using h)
    show _ ≤ max _ _
    omega
theorem depk_at : ∀ {ts : List (Key × Tr)} {i : Nat} {k : Key} {t : Tr}, ts[i]? = some (k, t) → t.dep ≤ Tr.depk ts
  | [], i, k, t, h => by simp at h
  | (k', x) :: ts, 0, k, t, h => by simp at h; obtain ⟨_, rfl⟩ := h; show _ ≤ max _ _; omega
  | (k', x) :: ts, i + 1, k, t, h => by
    have := depk_at (ts := ts) (i := i) (k := k) (t := t) (by simpa using h)
    show _ ≤ max _ _
    omega
theorem Tr.dep_pos (t : Tr) : 1 ≤ t.dep := by cases t <;> simp [Tr.dep]
/-- the dict of a dict -/
theorem kvGet_at {kvs : List (Key × D)} (nd : (kvs.map (·.1)).Nodup) {i : Nat} {k : Key} {d : D} (h : kvs[i]? = some (k, d)) : kvGet kvs k = some d := by
  induction kvs generalizing i with
  | nil => simp at h
  | cons x kvs ih =>
    obtain ⟨n1, n2⟩ := List.nodup_cons.mp (show (x.1 :: kvs.map (·.1)).Nodup from nd)
    unfold kvGet
    rw [List.find?_cons]
    cases i with
    | zero =>
      simp at h
      subst h
      simp
    | succ i =>
      have h : kvs[i]? = some (k, d) := by simpa using h
      have hne : x.1 ≠ k := fun z => n1 (by rw [z]; exact List.mem_map.mpr ⟨(k, d), List.mem_of_getElem? h, rfl⟩)
      rw [decide_eq_false hne]
      exact ih n2 h
theorem kvPut_new {kvs : List (Key × D)} {k : Key} {d : D} (h : k ∉ kvs.map (·.1)) : kvPut kvs k d = kvs ++ [(k, d)] := by
  unfold kvPut
  rw [if_neg]
  intro z
  obtain ⟨x, hx, e⟩ := List.any_eq_true.mp z
  exact h (List.mem_map.mpr ⟨x, hx, of_decide_eq_true e⟩)
end
/-! ### the types of things -/
section
variable {p : Px} {S : Sto} {t : Tr} {d : D}
def Tr.ty : Tr → Tn
  | .non => .none
  | .bl _ => .bool
  | .int _ => .int
  | .str _ => .str
  | .tup _ => .tuple
  | .lst _ => .list
  | .dct _ => .dict
theorem Tt.ty (h : Tt p S t d) : tyOf d S = some t.ty := by
  cases h with
  | lst _ _ e _ => simp [e]; rfl
  | dct _ _ _ _ e _ => rcases e with e | e <;> simp [e] <;> rfl
  | _ => rfl
theorem Tt.inst (h : Tt p S t d) {u : Tn} (hu : okT u = true) : instD [d, .ty u] S = some (.bl (subT t.ty u), S) := by
  show (if okT u = true then (tyOf d S).map fun v => (D.bl (subT v u), S) else none) = _
  rw [if_pos hu, h.ty]; rfl
theorem Tt.isN (h : Tt p S t d) : isD d .non S = some (.bl (match t with | .non => true | _ => false), S) := by cases h <;> rfl
theorem keyD_kD (k : Key) : keyD (kD k) = some k := by cases k <;> rfl
theorem idx_Z {k : Nat} {kvs : List (Key × D)} {key : Key} {v : D} (h : S[k]? = some (.dct kvs) ∨ S[k]? = some (.dctZ kvs)) (hg : kvGet kvs key = some v) : idxD (.loc k) (kD key) S = some (v, S) := by
  show idxLoc k (kD key) S = _
  unfold idxLoc
  rcases h with h | h <;> rw [h] <;> show idxKey kvs (keyD (kD key)) S = _ <;> rw [keyD_kD] <;> show (kvGet kvs key).map _ = _ <;> rw [hg] <;> rfl
theorem put_K {k : Nat} {kvs : List (Key × D)} {key : Key} {v : D} (h : S[k]? = some (.dct kvs)) (hl : kvs.length < LINE) : putD (.loc k) (kD key) v S = some (S.set k (.dct (kvPut kvs key v))) := by
  show (match S[k]? with
    | some (.lst xs) => putSeq k xs (kD key) v S
    | some (.dct kvs) => putK2 k kvs (kD key) v S
    | some (.dcN kvs) => putN k kvs (tupN (kD key)) v S
    | _ => none) = _
  rw [h]
  dsimp only
  unfold putK2
  rw [keyD_kD]
  show (if kvs.length < LINE then _ else none) = _
  rw [if_pos hl]
@[simp] theorem wp_eDct {n : En} {Q : D → Sto → Prop} {X : PX} : Wp (eDct n S) Q X = Q (.loc S.length) (S ++ [.dct []]) := rfl
@[simp] theorem wp_eDct1 {k : Str} {v : Int} {n : En} {Q : D → Sto → Prop} {X : PX} : Wp (eDct1 k v n S) Q X = Q (.loc S.length) (S ++ [.dct [(.inr k, .int v)]]) := rfl
theorem wp_gSubsP {fo fi : E D} {n : En} {v : D} {k : Nat} {kvs : List (Key × D)} {key : Key} {QN : En → Sto → Prop} {X : PX} (ho : ∀ S, fo n S = .ok (.loc k) S) (hi : ∀ S, fi n S = .ok (kD key) S) (h : S[k]? = some (.dct kvs)) (hl : kvs.length < LINE) (q : QN n (S.set k (.dct (kvPut kvs key v)))) : Wp (gSubs fo fi v n S) QN X := by
  rw [wp_gSubs, ho, wp_ok, hi, wp_ok, put_K h hl]
  exact q
theorem in_K {k : Nat} {kvs : List (Key × D)} {key : Key} {v : D} (h : S[k]? = some (.dct kvs) ∨ S[k]? = some (.dctZ kvs)) (hg : kvGet kvs key = some v) : inD (kD key) (.loc k) S = some (.bl true, S) := by
  have e1 : pyV S 64 (.loc k) = none := by
    have e0 : lstAt S k = none := by unfold lstAt; rcases h with h | h <;> rw [h]
    show (match lstAt S k with | some xs => (allSome (xs.map (pyV S 63))).map PyData.list | none => none) = none
    rw [e0]
  have e2 : memKN (kD key) (.loc k) S = some true := by
    have e3 : memN (.loc k) (tupN (kD key)) S = none := by cases key <;> rfl
    unfold memKN
    rw [e3]
    show memK (.loc k) (keyD (kD key)) S = _
    rw [keyD_kD]
    show (match dctAt S k with | some kvs => some (kvGet kvs key).isSome | none => none) = _
    have e4 : dctAt S k = some kvs := by unfold dctAt; rcases h with h | h <;> rw [h]
    rw [e4]
    dsimp only
    rw [hg]; rfl
  show (match memD (kD key) (.loc k) S with | some b => some (D.bl b, S) | none => none) = _
  have e5 : memD (kD key) (.loc k) S = some true := by
    show (match pyV S 64 (kD key), pyV S 64 (.loc k) with
      | some a, some (.tuple bs) => some (bs.any fun z => PyData.eqv z a)
      | some a, some (.list bs) => some (bs.any fun z => PyData.eqv z a)
      | _, _ => memKN (kD key) (.loc k) S) = _
    rw [e1]
    cases pyV S 64 (kD key) <;> exact e2
  rw [e5]
theorem len_K {k : Nat} {kvs : List (Key × D)} (h : S[k]? = some (.dct kvs) ∨ S[k]? = some (.dctZ kvs)) : lenD [.loc k] S = some (.int kvs.length, S) := by
  show (lenOf (.loc k) S).map _ = _
  unfold lenOf
  dsimp only
  rcases h with h | h <;> rw [h] <;> rfl
theorem eq_strs {x : Str} (hs : PyData.strOk x = true) : eqD (.str x) (.str x) S = some (.bl true, S) := by
  have e1 : pyV S 64 (.str x) = some (.str x) := by
    show (if PyData.strOk x = true then _ else _) = _
    rw [if_pos hs]
  show (match pyV S 64 (.str x), pyV S 64 (.str x) with | some a, some b => some (D.bl (PyData.eqv a b), S) | _, _ => none) = _
  rw [e1]
  show some (D.bl (x == x), S) = _
  rw [beq_self_eq_true]
theorem ne_bls {a b : Bool} : neD (.bl a) (.bl b) S = some (.bl (!(a == b)), S) := by cases a <;> cases b <;> rfl
end
end Jm

set_option Elab.async false
set_option linter.all false
set_option maxRecDepth 100000
set_option maxHeartbeats 4000000
noncomputable section
namespace K00
open PySem PySem.Spec PyProof.Rows L2 Jm
def top (i : Nat) : Stmt := PySem.Challenge.pw_jointmaps_k00_errors_each_of_its_own.main.body.getD i (.Pass ⟨0, 0, 0, 0⟩)
def r__law_pool : DRow := ⟨356, "_law_pool", top 27, ["script", "lap"], ["script", "lap", "cell", "stirred", "each"], [], false, .fn "_law_pool"⟩
theorem b__law_pool : DRowB r__law_pool := ⟨by decide +kernel, fun _ _ _ _ _ _ us hl => match us, hl with | [_, _], _ => rfl, fun q hq => nomatch hq⟩
def r__law_below : DRow := ⟨92, "_law_below", top 28, ["pool", "many"], ["pool", "many", "mixed", "figure"], [], false, .fn "_law_below"⟩
theorem b__law_below : DRowB r__law_below := ⟨by decide +kernel, fun _ _ _ _ _ _ us hl => match us, hl with | [_, _], _ => rfl, fun q hq => nomatch hq⟩
def r__law_one : DRow := ⟨335, "_law_one", top 29, ["pool", "some"], ["pool", "some"], [], false, .fn "_law_one"⟩
theorem b__law_one : DRowB r__law_one := ⟨by decide +kernel, fun _ _ _ _ _ _ us hl => match us, hl with | [_, _], _ => rfl, fun q hq => nomatch hq⟩
def r__law_great : DRow := ⟨183, "_law_great", top 30, ["pool", "many"], ["pool", "many", "found", "lap"], [], false, .fn "_law_great"⟩
theorem b__law_great : DRowB r__law_great := ⟨by decide +kernel, fun _ _ _ _ _ _ us hl => match us, hl with | [_, _], _ => rfl, fun q hq => nomatch hq⟩
def r__law_thing : DRow := ⟨439, "_law_thing", top 31, ["pool"], ["pool"], [], false, .fn "_law_thing"⟩
theorem b__law_thing : DRowB r__law_thing := ⟨by decide +kernel, fun _ _ _ _ _ _ us hl => match us, hl with | [_], _ => rfl, fun q hq => nomatch hq⟩
def r__law_copy : DRow := ⟨132, "_law_copy", top 32, ["thing"], ["thing", "found", "key", "each"], [], false, .fn "_law_copy"⟩
theorem b__law_copy : DRowB r__law_copy := ⟨by decide +kernel, fun _ _ _ _ _ _ us hl => match us, hl with | [_], _ => rfl, fun q hq => nomatch hq⟩
def r__law_alike : DRow := ⟨35, "_law_alike", top 33, ["told", "due"], ["told", "due", "key", "x", "y"], [], false, .fn "_law_alike"⟩
theorem b__law_alike : DRowB r__law_alike := ⟨by decide +kernel, fun _ _ _ _ _ _ us hl => match us, hl with | [_, _], _ => rfl, fun q hq => nomatch hq⟩
def r__law_made : DRow := ⟨282, "_law_made", top 34, ["way", "value", "is_named"], ["way", "value", "is_named"], [], false, .fn "_law_made"⟩
theorem b__law_made : DRowB r__law_made := ⟨by decide +kernel, fun _ _ _ _ _ _ us hl => match us, hl with | [_, _, _], _ => rfl, fun q hq => nomatch hq⟩
def r__law_made_others : DRow := ⟨283, "_law_made_others", top 35, ["way", "value", "is_named"], ["way", "value", "is_named"], [], false, .fn "_law_made_others"⟩
theorem b__law_made_others : DRowB r__law_made_others := ⟨by decide +kernel, fun _ _ _ _ _ _ us hl => match us, hl with | [_, _, _], _ => rfl, fun q hq => nomatch hq⟩
def r__law_marks : DRow := ⟨289, "_law_marks", top 36, ["e"], ["e", "found"], [], false, .fn "_law_marks"⟩
theorem b__law_marks : DRowB r__law_marks := ⟨by decide +kernel, fun _ _ _ _ _ _ us hl => match us, hl with | [_], _ => rfl, fun q hq => nomatch hq⟩
def r__law_kept : DRow := ⟨255, "_law_kept", top 37, ["way", "e"], ["way", "e"], [], false, .fn "_law_kept"⟩
theorem b__law_kept : DRowB r__law_kept := ⟨by decide +kernel, fun _ _ _ _ _ _ us hl => match us, hl with | [_, _], _ => rfl, fun q hq => nomatch hq⟩
def r__law_raised : DRow := ⟨361, "_law_raised", top 38, ["way", "value"], ["way", "value", "e"], [], false, .fn "_law_raised"⟩
theorem b__law_raised : DRowB r__law_raised := ⟨by decide +kernel, fun _ _ _ _ _ _ us hl => match us, hl with | [_, _], _ => rfl, fun q hq => nomatch hq⟩
def r__law_right : DRow := ⟨378, "_law_right", top 39, ["pool"], ["pool", "way", "words", "is_named", "value", "due", "made", "at"], [], false, .fn "_law_right"⟩
theorem b__law_right : DRowB r__law_right := ⟨by decide +kernel, fun _ _ _ _ _ _ us hl => match us, hl with | [_], _ => rfl, fun q hq => nomatch hq⟩
def r_law : DRow := ⟨788, "law", top 40, ["script"], ["script", "lap"], [], false, .fn "law"⟩
theorem b_law : DRowB r_law := ⟨by decide +kernel, fun _ _ _ _ _ _ us hl => match us, hl with | [_], _ => rfl, fun q hq => nomatch hq⟩
def k_JointError : CRow := ⟨100088, "JointError", none⟩
theorem kb_JointError : CRowB k_JointError := (by decide : 100088 % 4 = 0)
def q_InvalidNumber : Stmt := (match top 2 with | .ClassDef _ _ _ b _ _ _ _ _ _ _ => b | _ => []).getD 0 (.Pass ⟨0, 0, 0, 0⟩)
def k_InvalidNumber : CRow := ⟨100057, "InvalidNumber", some (q_InvalidNumber, "given")⟩
theorem kb_InvalidNumber : CRowB k_InvalidNumber := ⟨by decide, by decide +kernel, by decide +kernel, by decide +kernel, fun _ _ _ _ _ _ us hl => match us, hl with | [_, _], _ => rfl, by decide +kernel, fun _ _ _ _ _ _ us ws h1 h2 => match us, ws, h1, h2 with | [_], [_], _, _ => rfl⟩
def q_InvalidMap : Stmt := (match top 3 with | .ClassDef _ _ _ b _ _ _ _ _ _ _ => b | _ => []).getD 0 (.Pass ⟨0, 0, 0, 0⟩)
def k_InvalidMap : CRow := ⟨100045, "InvalidMap", some (q_InvalidMap, "given")⟩
theorem kb_InvalidMap : CRowB k_InvalidMap := ⟨by decide, by decide +kernel, by decide +kernel, by decide +kernel, fun _ _ _ _ _ _ us hl => match us, hl with | [_, _], _ => rfl, by decide +kernel, fun _ _ _ _ _ _ us ws h1 h2 => match us, ws, h1, h2 with | [_], [_], _, _ => rfl⟩
def q_InvalidEnd : Stmt := (match top 4 with | .ClassDef _ _ _ b _ _ _ _ _ _ _ => b | _ => []).getD 0 (.Pass ⟨0, 0, 0, 0⟩)
def k_InvalidEnd : CRow := ⟨100025, "InvalidEnd", some (q_InvalidEnd, "given")⟩
theorem kb_InvalidEnd : CRowB k_InvalidEnd := ⟨by decide, by decide +kernel, by decide +kernel, by decide +kernel, fun _ _ _ _ _ _ us hl => match us, hl with | [_, _], _ => rfl, by decide +kernel, fun _ _ _ _ _ _ us ws h1 h2 => match us, ws, h1, h2 with | [_], [_], _, _ => rfl⟩
def q_InvalidJoint : Stmt := (match top 5 with | .ClassDef _ _ _ b _ _ _ _ _ _ _ => b | _ => []).getD 0 (.Pass ⟨0, 0, 0, 0⟩)
def k_InvalidJoint : CRow := ⟨100033, "InvalidJoint", some (q_InvalidJoint, "given")⟩
theorem kb_InvalidJoint : CRowB k_InvalidJoint := ⟨by decide, by decide +kernel, by decide +kernel, by decide +kernel, fun _ _ _ _ _ _ us hl => match us, hl with | [_, _], _ => rfl, by decide +kernel, fun _ _ _ _ _ _ us ws h1 h2 => match us, ws, h1, h2 with | [_], [_], _, _ => rfl⟩
def q_InvalidDeed : Stmt := (match top 6 with | .ClassDef _ _ _ b _ _ _ _ _ _ _ => b | _ => []).getD 0 (.Pass ⟨0, 0, 0, 0⟩)
def k_InvalidDeed : CRow := ⟨100017, "InvalidDeed", some (q_InvalidDeed, "given")⟩
theorem kb_InvalidDeed : CRowB k_InvalidDeed := ⟨by decide, by decide +kernel, by decide +kernel, by decide +kernel, fun _ _ _ _ _ _ us hl => match us, hl with | [_, _], _ => rfl, by decide +kernel, fun _ _ _ _ _ _ us ws h1 h2 => match us, ws, h1, h2 with | [_], [_], _, _ => rfl⟩
def q_InvalidTree : Stmt := (match top 7 with | .ClassDef _ _ _ b _ _ _ _ _ _ _ => b | _ => []).getD 0 (.Pass ⟨0, 0, 0, 0⟩)
def k_InvalidTree : CRow := ⟨100077, "InvalidTree", some (q_InvalidTree, "given")⟩
theorem kb_InvalidTree : CRowB k_InvalidTree := ⟨by decide, by decide +kernel, by decide +kernel, by decide +kernel, fun _ _ _ _ _ _ us hl => match us, hl with | [_, _], _ => rfl, by decide +kernel, fun _ _ _ _ _ _ us ws h1 h2 => match us, ws, h1, h2 with | [_], [_], _, _ => rfl⟩
def q_InvalidOpen : Stmt := (match top 8 with | .ClassDef _ _ _ b _ _ _ _ _ _ _ => b | _ => []).getD 0 (.Pass ⟨0, 0, 0, 0⟩)
def k_InvalidOpen : CRow := ⟨100061, "InvalidOpen", some (q_InvalidOpen, "given")⟩
theorem kb_InvalidOpen : CRowB k_InvalidOpen := ⟨by decide, by decide +kernel, by decide +kernel, by decide +kernel, fun _ _ _ _ _ _ us hl => match us, hl with | [_, _], _ => rfl, by decide +kernel, fun _ _ _ _ _ _ us ws h1 h2 => match us, ws, h1, h2 with | [_], [_], _, _ => rfl⟩
def q_InvalidDress : Stmt := (match top 9 with | .ClassDef _ _ _ b _ _ _ _ _ _ _ => b | _ => []).getD 0 (.Pass ⟨0, 0, 0, 0⟩)
def k_InvalidDress : CRow := ⟨100021, "InvalidDress", some (q_InvalidDress, "given")⟩
theorem kb_InvalidDress : CRowB k_InvalidDress := ⟨by decide, by decide +kernel, by decide +kernel, by decide +kernel, fun _ _ _ _ _ _ us hl => match us, hl with | [_, _], _ => rfl, by decide +kernel, fun _ _ _ _ _ _ us ws h1 h2 => match us, ws, h1, h2 with | [_], [_], _, _ => rfl⟩
def q_InvalidLot : Stmt := (match top 10 with | .ClassDef _ _ _ b _ _ _ _ _ _ _ => b | _ => []).getD 0 (.Pass ⟨0, 0, 0, 0⟩)
def k_InvalidLot : CRow := ⟨100041, "InvalidLot", some (q_InvalidLot, "given")⟩
theorem kb_InvalidLot : CRowB k_InvalidLot := ⟨by decide, by decide +kernel, by decide +kernel, by decide +kernel, fun _ _ _ _ _ _ us hl => match us, hl with | [_, _], _ => rfl, by decide +kernel, fun _ _ _ _ _ _ us ws h1 h2 => match us, ws, h1, h2 with | [_], [_], _, _ => rfl⟩
def q_InvalidName : Stmt := (match top 11 with | .ClassDef _ _ _ b _ _ _ _ _ _ _ => b | _ => []).getD 0 (.Pass ⟨0, 0, 0, 0⟩)
def k_InvalidName : CRow := ⟨100053, "InvalidName", some (q_InvalidName, "given")⟩
theorem kb_InvalidName : CRowB k_InvalidName := ⟨by decide, by decide +kernel, by decide +kernel, by decide +kernel, fun _ _ _ _ _ _ us hl => match us, hl with | [_, _], _ => rfl, by decide +kernel, fun _ _ _ _ _ _ us ws h1 h2 => match us, ws, h1, h2 with | [_], [_], _, _ => rfl⟩
def q_InvalidLine : Stmt := (match top 12 with | .ClassDef _ _ _ b _ _ _ _ _ _ _ => b | _ => []).getD 0 (.Pass ⟨0, 0, 0, 0⟩)
def k_InvalidLine : CRow := ⟨100037, "InvalidLine", some (q_InvalidLine, "given")⟩
theorem kb_InvalidLine : CRowB k_InvalidLine := ⟨by decide, by decide +kernel, by decide +kernel, by decide +kernel, fun _ _ _ _ _ _ us hl => match us, hl with | [_, _], _ => rfl, by decide +kernel, fun _ _ _ _ _ _ us ws h1 h2 => match us, ws, h1, h2 with | [_], [_], _, _ => rfl⟩
def q_NotARoom : Stmt := (match top 13 with | .ClassDef _ _ _ b _ _ _ _ _ _ _ => b | _ => []).getD 0 (.Pass ⟨0, 0, 0, 0⟩)
def k_NotARoom : CRow := ⟨100097, "NotARoom", some (q_NotARoom, "given")⟩
theorem kb_NotARoom : CRowB k_NotARoom := ⟨by decide, by decide +kernel, by decide +kernel, by decide +kernel, fun _ _ _ _ _ _ us hl => match us, hl with | [_, _], _ => rfl, by decide +kernel, fun _ _ _ _ _ _ us ws h1 h2 => match us, ws, h1, h2 with | [_], [_], _, _ => rfl⟩
def q_InvalidPieces : Stmt := (match top 14 with | .ClassDef _ _ _ b _ _ _ _ _ _ _ => b | _ => []).getD 0 (.Pass ⟨0, 0, 0, 0⟩)
def k_InvalidPieces : CRow := ⟨100066, "InvalidPieces", some (q_InvalidPieces, "index")⟩
theorem kb_InvalidPieces : CRowB k_InvalidPieces := ⟨by decide, by decide +kernel, by decide +kernel, by decide +kernel, fun _ _ _ _ _ _ us hl => match us, hl with | [_, _], _ => rfl, by decide +kernel, fun _ _ _ _ _ _ us ws h1 h2 => match us, ws, h1, h2 with | [_], [_], _, _ => rfl⟩
def q_InvalidMaps : Stmt := (match top 15 with | .ClassDef _ _ _ b _ _ _ _ _ _ _ => b | _ => []).getD 0 (.Pass ⟨0, 0, 0, 0⟩)
def k_InvalidMaps : CRow := ⟨100050, "InvalidMaps", some (q_InvalidMaps, "index")⟩
theorem kb_InvalidMaps : CRowB k_InvalidMaps := ⟨by decide, by decide +kernel, by decide +kernel, by decide +kernel, fun _ _ _ _ _ _ us hl => match us, hl with | [_, _], _ => rfl, by decide +kernel, fun _ _ _ _ _ _ us ws h1 h2 => match us, ws, h1, h2 with | [_], [_], _, _ => rfl⟩
def q_InvalidWeights : Stmt := (match top 16 with | .ClassDef _ _ _ b _ _ _ _ _ _ _ => b | _ => []).getD 0 (.Pass ⟨0, 0, 0, 0⟩)
def k_InvalidWeights : CRow := ⟨100086, "InvalidWeights", some (q_InvalidWeights, "index")⟩
theorem kb_InvalidWeights : CRowB k_InvalidWeights := ⟨by decide, by decide +kernel, by decide +kernel, by decide +kernel, fun _ _ _ _ _ _ us hl => match us, hl with | [_, _], _ => rfl, by decide +kernel, fun _ _ _ _ _ _ us ws h1 h2 => match us, ws, h1, h2 with | [_], [_], _, _ => rfl⟩
def q_InvalidForks : Stmt := (match top 17 with | .ClassDef _ _ _ b _ _ _ _ _ _ _ => b | _ => []).getD 0 (.Pass ⟨0, 0, 0, 0⟩)
def k_InvalidForks : CRow := ⟨100030, "InvalidForks", some (q_InvalidForks, "index")⟩
theorem kb_InvalidForks : CRowB k_InvalidForks := ⟨by decide, by decide +kernel, by decide +kernel, by decide +kernel, fun _ _ _ _ _ _ us hl => match us, hl with | [_, _], _ => rfl, by decide +kernel, fun _ _ _ _ _ _ us ws h1 h2 => match us, ws, h1, h2 with | [_], [_], _, _ => rfl⟩
def q_InvalidWay : Stmt := (match top 18 with | .ClassDef _ _ _ b _ _ _ _ _ _ _ => b | _ => []).getD 0 (.Pass ⟨0, 0, 0, 0⟩)
def k_InvalidWay : CRow := ⟨100082, "InvalidWay", some (q_InvalidWay, "index")⟩
theorem kb_InvalidWay : CRowB k_InvalidWay := ⟨by decide, by decide +kernel, by decide +kernel, by decide +kernel, fun _ _ _ _ _ _ us hl => match us, hl with | [_, _], _ => rfl, by decide +kernel, fun _ _ _ _ _ _ us ws h1 h2 => match us, ws, h1, h2 with | [_], [_], _, _ => rfl⟩
def q_InvalidReports : Stmt := (match top 19 with | .ClassDef _ _ _ b _ _ _ _ _ _ _ => b | _ => []).getD 0 (.Pass ⟨0, 0, 0, 0⟩)
def k_InvalidReports : CRow := ⟨100070, "InvalidReports", some (q_InvalidReports, "index")⟩
theorem kb_InvalidReports : CRowB k_InvalidReports := ⟨by decide, by decide +kernel, by decide +kernel, by decide +kernel, fun _ _ _ _ _ _ us hl => match us, hl with | [_, _], _ => rfl, by decide +kernel, fun _ _ _ _ _ _ us ws h1 h2 => match us, ws, h1, h2 with | [_], [_], _, _ => rfl⟩
def q_InvalidAct : Stmt := (match top 20 with | .ClassDef _ _ _ b _ _ _ _ _ _ _ => b | _ => []).getD 0 (.Pass ⟨0, 0, 0, 0⟩)
def k_InvalidAct : CRow := ⟨100014, "InvalidAct", some (q_InvalidAct, "index")⟩
theorem kb_InvalidAct : CRowB k_InvalidAct := ⟨by decide, by decide +kernel, by decide +kernel, by decide +kernel, fun _ _ _ _ _ _ us hl => match us, hl with | [_, _], _ => rfl, by decide +kernel, fun _ _ _ _ _ _ us ws h1 h2 => match us, ws, h1, h2 with | [_], [_], _, _ => rfl⟩
def q_InvalidText : Stmt := (match top 21 with | .ClassDef _ _ _ b _ _ _ _ _ _ _ => b | _ => []).getD 0 (.Pass ⟨0, 0, 0, 0⟩)
def k_InvalidText : CRow := ⟨100074, "InvalidText", some (q_InvalidText, "index")⟩
theorem kb_InvalidText : CRowB k_InvalidText := ⟨by decide, by decide +kernel, by decide +kernel, by decide +kernel, fun _ _ _ _ _ _ us hl => match us, hl with | [_, _], _ => rfl, by decide +kernel, fun _ _ _ _ _ _ us ws h1 h2 => match us, ws, h1, h2 with | [_], [_], _, _ => rfl⟩
def q_Barred : Stmt := (match top 22 with | .ClassDef _ _ _ b _ _ _ _ _ _ _ => b | _ => []).getD 0 (.Pass ⟨0, 0, 0, 0⟩)
def k_Barred : CRow := ⟨100003, "Barred", some (q_Barred, "reason")⟩
theorem kb_Barred : CRowB k_Barred := ⟨by decide, by decide +kernel, by decide +kernel, by decide +kernel, fun _ _ _ _ _ _ us hl => match us, hl with | [_, _], _ => rfl, by decide +kernel, fun _ _ _ _ _ _ us ws h1 h2 => match us, ws, h1, h2 with | [_], [_], _, _ => rfl⟩
def k_TooMany : CRow := ⟨100120, "TooMany", none⟩
theorem kb_TooMany : CRowB k_TooMany := (by decide : 100120 % 4 = 0)
def k_NoneFits : CRow := ⟨100092, "NoneFits", none⟩
theorem kb_NoneFits : CRowB k_NoneFits := (by decide : 100092 % 4 = 0)
def k_NothingToUndo : CRow := ⟨100100, "NothingToUndo", none⟩
theorem kb_NothingToUndo : CRowB k_NothingToUndo := (by decide : 100100 % 4 = 0)
def T : List DRow := [r__law_pool, r__law_below, r__law_one, r__law_great, r__law_thing, r__law_copy, r__law_alike, r__law_made, r__law_made_others, r__law_marks, r__law_kept, r__law_raised, r__law_right, r_law]
def cs : List (Str × Cn) := []
def fs : List Str := ["int", "len", "abs", "range", "isinstance", "tuple", "list", "dict", "bool", "str", "all", "zip", "ValueError", "KeyError", "IndexError", "TypeError", "max", "min"]
def CT : List CRow := [k_JointError, k_InvalidNumber, k_InvalidMap, k_InvalidEnd, k_InvalidJoint, k_InvalidDeed, k_InvalidTree, k_InvalidOpen, k_InvalidDress, k_InvalidLot, k_InvalidName, k_InvalidLine, k_NotARoom, k_InvalidPieces, k_InvalidMaps, k_InvalidWeights, k_InvalidForks, k_InvalidWay, k_InvalidReports, k_InvalidAct, k_InvalidText, k_Barred, k_TooMany, k_NoneFits, k_NothingToUndo]
def Z : Tab := ⟨T, cs, fs, CT, 100088⟩
abbrev md : Md := Z.md
theorem rB : AllR DRowB T := .cons b__law_pool (.cons b__law_below (.cons b__law_one (.cons b__law_great (.cons b__law_thing (.cons b__law_copy (.cons b__law_alike (.cons b__law_made (.cons b__law_made_others (.cons b__law_marks (.cons b__law_kept (.cons b__law_raised (.cons b__law_right (.cons b_law .nil)))))))))))))
theorem zB : TabB Z := ⟨by decide +kernel, by decide +kernel, by decide +kernel, rB, .cons kb_JointError (.cons kb_InvalidNumber (.cons kb_InvalidMap (.cons kb_InvalidEnd (.cons kb_InvalidJoint (.cons kb_InvalidDeed (.cons kb_InvalidTree (.cons kb_InvalidOpen (.cons kb_InvalidDress (.cons kb_InvalidLot (.cons kb_InvalidName (.cons kb_InvalidLine (.cons kb_NotARoom (.cons kb_InvalidPieces (.cons kb_InvalidMaps (.cons kb_InvalidWeights (.cons kb_InvalidForks (.cons kb_InvalidWay (.cons kb_InvalidReports (.cons kb_InvalidAct (.cons kb_InvalidText (.cons kb_Barred (.cons kb_TooMany (.cons kb_NoneFits (.cons kb_NothingToUndo .nil)))))))))))))))))))))))), by decide +kernel⟩
def F__law_pool (cf : CF) : E Out :=
  (sSeq (sAsgn (eIf (eBl (eOp2 (cmpX .Lt) (eVar 1) (eOpN lenD [(eVar 0)]))) (eOpN intD [(eOp2 idxD (eVar 0) (eVar 1))]) (eOp2 addD (eOp2 mulD (eCst (.int 3215)) (eVar 1)) (eCst (.int 1581)))) (gNam 2))
    (sSeq (sAsgn (eOp2 addD (eCst (.int 120129)) (eOp2 mulD (eCst (.int 7919)) (eVar 1))) (gNam 3))
    (sSeq (sFor (iVal (eSlc (eVar 0) none (some (eCst (.int 63))))) (gNam 4)
    (sSeq (sAsgn (eOp2 modD (eOpN intD [(eOp2 addD (eOp2 addD (eOp2 mulD (eVar 3) (eCst (.int 48271))) (eOp2 modD (eOpN intD [(eVar 4)]) (eCst (.int 2147483629)))) (eCst (.int 11)))]) (eCst (.int 2147483647))) (gNam 3))
    sNil))
    (sSeq (sAsgn (eOp2 modD (eOpN intD [(eOp2 addD (eOp2 addD (eOp2 mulD (eVar 3) (eCst (.int 69621))) (eOp2 mulD (eOp2 modD (eOpN intD [(eVar 2)]) (eCst (.int 2147483629))) (eCst (.int 16807)))) (eCst (.int 7)))]) (eCst (.int 2147483647))) (gNam 3))
    (sSeq (sRet (eOpN mkLst [(eIf (eOrT (eBl (eOp2 (cmpX .Lt) (eVar 2) (eCst (.int 0)))) (eBl (eOp2 (cmpX .GtE) (eVar 2) (eOp2 powD (eCst (.int 10)) (eCst (.int 18)))))) (eOpN absD [(eVar 2)]) (eCst (.int 0))), (eVar 3), (eCst (.int 0))]))
    sNil)))))
abbrev I__law_pool (C : Nat → CF) : Prop := ∀ d, C (d + 1) 356 = runD 2 5 (F__law_pool (C d))
def F__law_below (cf : CF) : E Out :=
  (sSeq (sIf (eBl (eOp2 (cmpX .Gt) (eOp2 idxD (eVar 0) (eCst (.int 0))) (eCst (.int 0))))
    (sSeq (sAsgn (eOp2 modD (eOpN intD [(eOp2 idxD (eVar 0) (eCst (.int 0)))]) (eVar 1)) (gNam 3))
    (sSeq (sAsgn (eOp2 fdivD (eOp2 idxD (eVar 0) (eCst (.int 0))) (eVar 1)) (gSubs (eVar 0) (eCst (.int 0))))
    (sSeq (sRet (eVar 3))
    sNil)))
    sNil)
    (sSeq (sAsgn (eOp2 addD (eOp2 idxD (eVar 0) (eCst (.int 2))) (eCst (.int 1))) (gSubs (eVar 0) (eCst (.int 2))))
    (sSeq (sAsgn (eOp2 modD (eOpN intD [(eOp2 addD (eOp2 addD (eOp2 mulD (eOp2 idxD (eVar 0) (eCst (.int 1))) (eCst (.int 37771))) (eOp2 mulD (eOp2 idxD (eVar 0) (eCst (.int 2))) (eCst (.int 8763)))) (eCst (.int 5)))]) (eCst (.int 2147483647))) (gNam 2))
    (sSeq (sAsgn (eOp2 modD (eOpN intD [(eOp2 addD (eOp2 mulD (eVar 2) (eOp2 addD (eOp2 modD (eOpN intD [(eVar 2)]) (eCst (.int 4093))) (eCst (.int 39653)))) (eOp2 idxD (eVar 0) (eCst (.int 2))))]) (eCst (.int 2147483563))) (gSubs (eVar 0) (eCst (.int 1))))
    (sSeq (sRet (eOp2 modD (eOpN intD [(eOp2 fdivD (eOp2 idxD (eVar 0) (eCst (.int 1))) (eCst (.int 61)))]) (eVar 1)))
    sNil)))))
abbrev I__law_below (C : Nat → CF) : Prop := ∀ d, C (d + 1) 92 = runD 2 4 (F__law_below (C d))
def F__law_one (cf : CF) : E Out :=
  (sSeq (sRet (eOp2 idxD (eVar 1) (eCall (cf 92) [(eVar 0), (eOpN lenD [(eVar 1)])])))
    sNil)
abbrev I__law_one (C : Nat → CF) : Prop := ∀ d, C (d + 1) 335 = runD 2 2 (F__law_one (C d))
def F__law_great (cf : CF) : E Out :=
  (sSeq (sAsgn (eCst (.int 0)) (gNam 2))
    (sSeq (sFor (iRng rng1 [(eCst (.int 6))]) (gNam 3)
    (sSeq (sAsgn (eOp2 addD (eOp2 mulD (eVar 2) (eCst (.int 99991))) (eCall (cf 92) [(eVar 0), (eCst (.int 99991))])) (gNam 2))
    sNil))
    (sSeq (sRet (eOp2 modD (eOpN intD [(eVar 2)]) (eVar 1)))
    sNil)))
abbrev I__law_great (C : Nat → CF) : Prop := ∀ d, C (d + 1) 183 = runD 2 4 (F__law_great (C d))
def F__law_thing (cf : CF) : E Out :=
  (sSeq (sRet (eCall (cf 335) [(eVar 0), (eOpN mkTup [(eCst .non), (eCst (.bl true)), (eCst (.bl false)), (eOp1 negD (eCst (.int 1))), (eCst (.str "")), (eCst (.str "3")), (eCst (.str "ann")), (eOpN mkLst []), (eOpN mkLst [(eCst (.int 1))]), eDct, (eDct1 "a" 1), (eOpN mkTup [(eCst .non)]), (eOpN mkTup [(eOpN mkTup [(eOpN mkTup [(eOpN mkTup [(eCst (.int 5))])])])]), (eOpN mkTup [(eCst (.bl true))]), (eCst (.int 4)), (eOpN mkLst [(eOpN mkTup [(eCst (.int 1)), (eCst (.int 2))])]), (eOp2 powD (eCst (.int 10)) (eCst (.int 29))), (eOp1 negD (eCst (.int 5))), (eOpN mkTup [(eOpN mkTup [])]), (eOpN mkTup [(eCst (.str "ann"))]), (eOpN mkTup [(eCst (.int 1)), (eCst (.int 2)), (eCst (.int 3)), (eCst (.int 4))]), (eOpN mkTup [(eCst (.int 1)), (eCst (.int 2))]), (eOpN mkTup [(eOpN mkTup [(eCst (.int 1)), (eCst (.int 2))])]), (eOpN mkTup [(eOpN mkTup [(eCst (.int 0)), (eCst (.int 1))])]), (eCst (.str "1/2")), (eOpN mkLst [(eOpN mkLst [(eOpN mkTup [(eCst (.int 1)), (eCst (.int 1))])])])])]))
    sNil)
abbrev I__law_thing (C : Nat → CF) : Prop := ∀ d, C (d + 1) 439 = runD 1 1 (F__law_thing (C d))
def F__law_copy (cf : CF) : E Out :=
  (sSeq (sIf (eTru (eOpN instD [(eVar 0), (eCst (.ty .tuple))]))
    (sSeq (sRet (eOpN tupleD [(eLc (iVal (eVar 0)) [3] (gNam 3) tTru (eCall (cf 132) [(eVar 3)]))]))
    sNil)
    sNil)
    (sSeq (sIf (eTru (eOpN instD [(eVar 0), (eCst (.ty .list))]))
    (sSeq (sRet (eLc (iVal (eVar 0)) [3] (gNam 3) tTru (eCall (cf 132) [(eVar 3)])))
    sNil)
    sNil)
    (sSeq (sIf (eTru (eOpN instD [(eVar 0), (eCst (.ty .dict))]))
    (sSeq (sAsgn eDct (gNam 1))
    (sSeq (sFor (iVal (eVar 0)) (gNam 2)
    (sSeq (sAsgn (eCall (cf 132) [(eOp2 idxD (eVar 0) (eVar 2))]) (gSubs (eVar 1) (eVar 2)))
    sNil))
    (sSeq (sRet (eVar 1))
    sNil)))
    sNil)
    (sSeq (sRet (eVar 0))
    sNil))))
abbrev I__law_copy (C : Nat → CF) : Prop := ∀ d, C (d + 1) 132 = runD 1 4 (F__law_copy (C d))
def F__law_alike (cf : CF) : E Out :=
  (sSeq (sIf (eBl (eOp2 (cmpX .Is) (eVar 1) (eCst .non)))
    (sSeq (sRet (eOp2 (cmpX .Is) (eVar 0) (eCst .non)))
    sNil)
    sNil)
    (sSeq (sIf (eTru (eOpN instD [(eVar 1), (eCst (.ty .bool))]))
    (sSeq (sRet (eAnd (eOpN instD [(eVar 0), (eCst (.ty .bool))]) (eOp2 (cmpX .Eq) (eVar 0) (eVar 1))))
    sNil)
    sNil)
    (sSeq (sIf (eTru (eOpN instD [(eVar 1), (eCst (.ty .int))]))
    (sSeq (sRet (eAnd (eOpN instD [(eVar 0), (eCst (.ty .int))]) (eAnd (eNot (eOpN instD [(eVar 0), (eCst (.ty .bool))])) (eOp2 (cmpX .Eq) (eVar 0) (eVar 1)))))
    sNil)
    sNil)
    (sSeq (sIf (eTru (eOpN instD [(eVar 1), (eCst (.ty .str))]))
    (sSeq (sRet (eAnd (eOpN instD [(eVar 0), (eCst (.ty .str))]) (eOp2 (cmpX .Eq) (eVar 0) (eVar 1))))
    sNil)
    sNil)
    (sSeq (sIf (eTru (eOpN instD [(eVar 1), (eCst (.ty .dict))]))
    (sSeq (sIf (eOrT (eNotT (eTru (eOpN instD [(eVar 0), (eCst (.ty .dict))]))) (eBl (eOp2 (cmpX .NotEq) (eOpN lenD [(eVar 0)]) (eOpN lenD [(eVar 1)]))))
    (sSeq (sRet (eCst (.bl false)))
    sNil)
    sNil)
    (sSeq (sRet (eOpN (quanD fun bs => bs.all id) [(eLc (iVal (eVar 1)) [2] (gNam 2) tTru (eAnd (eOp2 (cmpX .In) (eVar 2) (eVar 0)) (eCall (cf 35) [(eOp2 idxD (eVar 0) (eVar 2)), (eOp2 idxD (eVar 1) (eVar 2))])))]))
    sNil))
    sNil)
    (sSeq (sIf (eOrT (eBl (eOp2 (cmpX .NotEq) (eOpN instD [(eVar 1), (eCst (.ty .tuple))]) (eOpN instD [(eVar 0), (eCst (.ty .tuple))]))) (eBl (eOp2 (cmpX .NotEq) (eOpN instD [(eVar 1), (eCst (.ty .list))]) (eOpN instD [(eVar 0), (eCst (.ty .list))]))))
    (sSeq (sRet (eCst (.bl false)))
    sNil)
    sNil)
    (sSeq (sRet (eAnd (eOp2 (cmpX .Eq) (eOpN lenD [(eVar 0)]) (eOpN lenD [(eVar 1)])) (eOpN (quanD fun bs => bs.all id) [(eLc (iZip (eVar 0) (eVar 1)) [3, 4] (gTupl [(gNam 3), (gNam 4)]) tTru (eCall (cf 35) [(eVar 3), (eVar 4)]))])))
    sNil)))))))
abbrev I__law_alike (C : Nat → CF) : Prop := ∀ d, C (d + 1) 35 = runD 2 5 (F__law_alike (C d))
def F__law_made (cf : CF) : E Out :=
  (sSeq (sIf (eBl (eOp2 (cmpX .Eq) (eVar 0) (eCst (.int 0))))
    (sSeq (sRet (eIf (eTru (eVar 2)) (eXv 100057 [(eVar 1)]) (eXv 100057 [(eVar 1)])))
    sNil)
    sNil)
    (sSeq (sIf (eBl (eOp2 (cmpX .Eq) (eVar 0) (eCst (.int 1))))
    (sSeq (sRet (eIf (eTru (eVar 2)) (eXv 100045 [(eVar 1)]) (eXv 100045 [(eVar 1)])))
    sNil)
    sNil)
    (sSeq (sIf (eBl (eOp2 (cmpX .Eq) (eVar 0) (eCst (.int 2))))
    (sSeq (sRet (eIf (eTru (eVar 2)) (eXv 100025 [(eVar 1)]) (eXv 100025 [(eVar 1)])))
    sNil)
    sNil)
    (sSeq (sIf (eBl (eOp2 (cmpX .Eq) (eVar 0) (eCst (.int 3))))
    (sSeq (sRet (eIf (eTru (eVar 2)) (eXv 100033 [(eVar 1)]) (eXv 100033 [(eVar 1)])))
    sNil)
    sNil)
    (sSeq (sIf (eBl (eOp2 (cmpX .Eq) (eVar 0) (eCst (.int 4))))
    (sSeq (sRet (eIf (eTru (eVar 2)) (eXv 100017 [(eVar 1)]) (eXv 100017 [(eVar 1)])))
    sNil)
    sNil)
    (sSeq (sIf (eBl (eOp2 (cmpX .Eq) (eVar 0) (eCst (.int 5))))
    (sSeq (sRet (eIf (eTru (eVar 2)) (eXv 100077 [(eVar 1)]) (eXv 100077 [(eVar 1)])))
    sNil)
    sNil)
    (sSeq (sIf (eBl (eOp2 (cmpX .Eq) (eVar 0) (eCst (.int 6))))
    (sSeq (sRet (eIf (eTru (eVar 2)) (eXv 100061 [(eVar 1)]) (eXv 100061 [(eVar 1)])))
    sNil)
    sNil)
    (sSeq (sIf (eBl (eOp2 (cmpX .Eq) (eVar 0) (eCst (.int 7))))
    (sSeq (sRet (eIf (eTru (eVar 2)) (eXv 100021 [(eVar 1)]) (eXv 100021 [(eVar 1)])))
    sNil)
    sNil)
    (sSeq (sIf (eBl (eOp2 (cmpX .Eq) (eVar 0) (eCst (.int 8))))
    (sSeq (sRet (eIf (eTru (eVar 2)) (eXv 100041 [(eVar 1)]) (eXv 100041 [(eVar 1)])))
    sNil)
    sNil)
    (sSeq (sIf (eBl (eOp2 (cmpX .Eq) (eVar 0) (eCst (.int 9))))
    (sSeq (sRet (eIf (eTru (eVar 2)) (eXv 100053 [(eVar 1)]) (eXv 100053 [(eVar 1)])))
    sNil)
    sNil)
    (sSeq (sIf (eBl (eOp2 (cmpX .Eq) (eVar 0) (eCst (.int 10))))
    (sSeq (sRet (eIf (eTru (eVar 2)) (eXv 100037 [(eVar 1)]) (eXv 100037 [(eVar 1)])))
    sNil)
    sNil)
    (sSeq (sIf (eBl (eOp2 (cmpX .Eq) (eVar 0) (eCst (.int 11))))
    (sSeq (sRet (eIf (eTru (eVar 2)) (eXv 100097 [(eVar 1)]) (eXv 100097 [(eVar 1)])))
    sNil)
    sNil)
    (sSeq (sRet (eCall (cf 283) [(eVar 0), (eVar 1), (eVar 2)]))
    sNil)))))))))))))
abbrev I__law_made (C : Nat → CF) : Prop := ∀ d, C (d + 1) 282 = runD 3 3 (F__law_made (C d))
def F__law_made_others (cf : CF) : E Out :=
  (sSeq (sIf (eBl (eOp2 (cmpX .Eq) (eVar 0) (eCst (.int 12))))
    (sSeq (sRet (eIf (eTru (eVar 2)) (eXv 100066 [(eVar 1)]) (eXv 100066 [(eVar 1)])))
    sNil)
    sNil)
    (sSeq (sIf (eBl (eOp2 (cmpX .Eq) (eVar 0) (eCst (.int 13))))
    (sSeq (sRet (eIf (eTru (eVar 2)) (eXv 100050 [(eVar 1)]) (eXv 100050 [(eVar 1)])))
    sNil)
    sNil)
    (sSeq (sIf (eBl (eOp2 (cmpX .Eq) (eVar 0) (eCst (.int 14))))
    (sSeq (sRet (eIf (eTru (eVar 2)) (eXv 100086 [(eVar 1)]) (eXv 100086 [(eVar 1)])))
    sNil)
    sNil)
    (sSeq (sIf (eBl (eOp2 (cmpX .Eq) (eVar 0) (eCst (.int 15))))
    (sSeq (sRet (eIf (eTru (eVar 2)) (eXv 100030 [(eVar 1)]) (eXv 100030 [(eVar 1)])))
    sNil)
    sNil)
    (sSeq (sIf (eBl (eOp2 (cmpX .Eq) (eVar 0) (eCst (.int 16))))
    (sSeq (sRet (eIf (eTru (eVar 2)) (eXv 100082 [(eVar 1)]) (eXv 100082 [(eVar 1)])))
    sNil)
    sNil)
    (sSeq (sIf (eBl (eOp2 (cmpX .Eq) (eVar 0) (eCst (.int 17))))
    (sSeq (sRet (eIf (eTru (eVar 2)) (eXv 100070 [(eVar 1)]) (eXv 100070 [(eVar 1)])))
    sNil)
    sNil)
    (sSeq (sIf (eBl (eOp2 (cmpX .Eq) (eVar 0) (eCst (.int 18))))
    (sSeq (sRet (eIf (eTru (eVar 2)) (eXv 100014 [(eVar 1)]) (eXv 100014 [(eVar 1)])))
    sNil)
    sNil)
    (sSeq (sIf (eBl (eOp2 (cmpX .Eq) (eVar 0) (eCst (.int 19))))
    (sSeq (sRet (eIf (eTru (eVar 2)) (eXv 100074 [(eVar 1)]) (eXv 100074 [(eVar 1)])))
    sNil)
    sNil)
    (sSeq (sIf (eBl (eOp2 (cmpX .Eq) (eVar 0) (eCst (.int 20))))
    (sSeq (sRet (eIf (eTru (eVar 2)) (eXv 100003 [(eVar 1)]) (eXv 100003 [(eVar 1)])))
    sNil)
    sNil)
    (sSeq (sIf (eBl (eOp2 (cmpX .Lt) (eVar 0) (eCst (.int 23))))
    (sSeq (sRet (eIf (eBl (eOp2 (cmpX .Eq) (eVar 0) (eCst (.int 21)))) (eXv0 100120) (eXv0 100092)))
    sNil)
    sNil)
    (sSeq (sRet (eIf (eBl (eOp2 (cmpX .Eq) (eVar 0) (eCst (.int 23)))) (eXv0 100100) (eXv0 100088)))
    sNil)))))))))))
abbrev I__law_made_others (C : Nat → CF) : Prop := ∀ d, C (d + 1) 283 = runD 3 3 (F__law_made_others (C d))
def F__law_marks (cf : CF) : E Out :=
  (sSeq (sAsgn (eOpN mkLst [(eOpN (instC md.sub md.cl) [(eVar 0), (eCst (.fn 100057))]), (eOpN (instC md.sub md.cl) [(eVar 0), (eCst (.fn 100045))]), (eOpN (instC md.sub md.cl) [(eVar 0), (eCst (.fn 100025))]), (eOpN (instC md.sub md.cl) [(eVar 0), (eCst (.fn 100033))])]) (gNam 1))
    (sSeq (sAsgn (eOp2 addD (eVar 1) (eOpN mkLst [(eOpN (instC md.sub md.cl) [(eVar 0), (eCst (.fn 100017))]), (eOpN (instC md.sub md.cl) [(eVar 0), (eCst (.fn 100077))]), (eOpN (instC md.sub md.cl) [(eVar 0), (eCst (.fn 100061))]), (eOpN (instC md.sub md.cl) [(eVar 0), (eCst (.fn 100021))])])) (gNam 1))
    (sSeq (sAsgn (eOp2 addD (eVar 1) (eOpN mkLst [(eOpN (instC md.sub md.cl) [(eVar 0), (eCst (.fn 100041))]), (eOpN (instC md.sub md.cl) [(eVar 0), (eCst (.fn 100053))]), (eOpN (instC md.sub md.cl) [(eVar 0), (eCst (.fn 100037))]), (eOpN (instC md.sub md.cl) [(eVar 0), (eCst (.fn 100097))])])) (gNam 1))
    (sSeq (sAsgn (eOp2 addD (eVar 1) (eOpN mkLst [(eOpN (instC md.sub md.cl) [(eVar 0), (eCst (.fn 100066))]), (eOpN (instC md.sub md.cl) [(eVar 0), (eCst (.fn 100050))]), (eOpN (instC md.sub md.cl) [(eVar 0), (eCst (.fn 100086))]), (eOpN (instC md.sub md.cl) [(eVar 0), (eCst (.fn 100030))])])) (gNam 1))
    (sSeq (sAsgn (eOp2 addD (eVar 1) (eOpN mkLst [(eOpN (instC md.sub md.cl) [(eVar 0), (eCst (.fn 100082))]), (eOpN (instC md.sub md.cl) [(eVar 0), (eCst (.fn 100070))]), (eOpN (instC md.sub md.cl) [(eVar 0), (eCst (.fn 100014))]), (eOpN (instC md.sub md.cl) [(eVar 0), (eCst (.fn 100074))])])) (gNam 1))
    (sSeq (sRet (eOp2 addD (eVar 1) (eOpN mkLst [(eOpN (instC md.sub md.cl) [(eVar 0), (eCst (.fn 100003))]), (eOpN (instC md.sub md.cl) [(eVar 0), (eCst (.fn 100120))]), (eOpN (instC md.sub md.cl) [(eVar 0), (eCst (.fn 100092))]), (eOpN (instC md.sub md.cl) [(eVar 0), (eCst (.fn 100100))])])))
    sNil))))))
abbrev I__law_marks (C : Nat → CF) : Prop := ∀ d, C (d + 1) 289 = runD 1 2 (F__law_marks (C d))
def F__law_kept (cf : CF) : E Out :=
  (sSeq (sIf (eBl (eOp2 (cmpX .Lt) (eVar 0) (eCst (.int 12))))
    (sSeq (sRet (eXvf md.cl "given" (eVar 1)))
    sNil)
    sNil)
    (sSeq (sIf (eBl (eOp2 (cmpX .Lt) (eVar 0) (eCst (.int 20))))
    (sSeq (sRet (eXvf md.cl "index" (eVar 1)))
    sNil)
    sNil)
    (sSeq (sRet (eIf (eBl (eOp2 (cmpX .Eq) (eVar 0) (eCst (.int 20)))) (eXvf md.cl "reason" (eVar 1)) (eCst .non)))
    sNil)))
abbrev I__law_kept (C : Nat → CF) : Prop := ∀ d, C (d + 1) 255 = runD 2 2 (F__law_kept (C d))
def F__law_raised (cf : CF) : E Out :=
  (sSeq (sTry (sSeq (sIf (eBl (eOp2 (cmpX .Eq) (eVar 0) (eCst (.int 0))))
    (sSeq (sRaise 100057 [(eVar 1)])
    sNil)
    sNil)
    (sSeq (sIf (eBl (eOp2 (cmpX .Eq) (eVar 0) (eCst (.int 1))))
    (sSeq (sRaise 100082 [(eVar 1)])
    sNil)
    sNil)
    (sSeq (sIf (eBl (eOp2 (cmpX .Eq) (eVar 0) (eCst (.int 2))))
    (sSeq (sRaise 100003 [(eVar 1)])
    sNil)
    sNil)
    (sSeq (sRaise0 100120)
    sNil))))
    [⟨fun i => if i ∈ md.cl then md.sub.lookup (i, 100088) else none, some 2, (sSeq (sIf (eBl (eOp2 (cmpX .Eq) (eVar 0) (eCst (.int 0))))
    (sSeq (sRet (eIf (eTru (eOpN (instC md.sub md.cl) [(eVar 2), (eCst (.fn 100057))])) (eOpN mkTup [(eCst (.str "given")), (eFld "given" (eVar 2))]) (eCst .non)))
    sNil)
    sNil)
    (sSeq (sIf (eBl (eOp2 (cmpX .Eq) (eVar 0) (eCst (.int 1))))
    (sSeq (sRet (eIf (eTru (eOpN (instC md.sub md.cl) [(eVar 2), (eCst (.fn 100082))])) (eOpN mkTup [(eCst (.str "index")), (eFld "index" (eVar 2))]) (eCst .non)))
    sNil)
    sNil)
    (sSeq (sIf (eBl (eOp2 (cmpX .Eq) (eVar 0) (eCst (.int 2))))
    (sSeq (sRet (eIf (eTru (eOpN (instC md.sub md.cl) [(eVar 2), (eCst (.fn 100003))])) (eOpN mkTup [(eCst (.str "reason")), (eFld "reason" (eVar 2))]) (eCst .non)))
    sNil)
    sNil)
    (sSeq (sRet (eIf (eTru (eOpN (instC md.sub md.cl) [(eVar 2), (eCst (.fn 100120))])) (eOpN mkTup [(eCst (.str "none")), (eCst .non)]) (eCst .non)))
    sNil))))⟩])
    sNil)
abbrev I__law_raised (C : Nat → CF) : Prop := ∀ d, C (d + 1) 361 = runD 2 3 (F__law_raised (C d))
def F__law_right (cf : CF) : E Out :=
  (sSeq (sFor (iRng rng1 [(eCst (.int 25))]) (gNam 1)
    (sSeq (sFor (iVal (eOpN mkTup [(eCst (.bl false)), (eCst (.bl true))])) (gNam 3)
    (sSeq (sAsgn (eCall (cf 335) [(eVar 0), (eOpN mkTup [(eCall (cf 439) [(eVar 0)]), (eCall (cf 183) [(eVar 0), (eOp2 powD (eCst (.int 10)) (eCst (.int 29)))]), (eOpN mkTup [(eCst (.int 1)), (eOpN mkTup [(eOpN mkTup [(eCst (.int 0)), (eCst (.int 1))])])]), (eCst (.str "name"))])]) (gNam 4))
    (sSeq (sPar 5 6 (eCall (cf 132) [(eVar 4)]) (eCall (cf 282) [(eVar 1), (eVar 4), (eVar 3)]))
    (sSeq (sIf (eOrT (eNotT (eTru (eOpN (instC md.sub md.cl) [(eVar 6), (eCst (.fn 100088))]))) (eOrT (eNotT (eTru (eOpN (instC md.sub md.cl) [(eVar 6), (eCst (.ty .xVal))]))) (eTru (eOpN (instC md.sub md.cl) [(eVar 6), (eOpN mkTup [(eCst (.ty .xKey)), (eCst (.ty .xIdx)), (eCst (.ty .xTyp))])]))))
    (sSeq (sRet (eCst (.bl false)))
    sNil)
    sNil)
    (sSeq (sIf (eBl (eOp2 (cmpX .NotEq) (eCall (cf 289) [(eVar 6)]) (eLc (iRng rng1 [(eCst (.int 24))]) [7] (gNam 7) tTru (eOp2 (cmpX .Eq) (eVar 1) (eVar 7)))))
    (sSeq (sRet (eCst (.bl false)))
    sNil)
    sNil)
    (sSeq (sIf (eAndT (eBl (eOp2 (cmpX .Lt) (eVar 1) (eCst (.int 21)))) (eNotT (eTru (eCall (cf 35) [(eCall (cf 255) [(eVar 1), (eVar 6)]), (eVar 5)]))))
    (sSeq (sRet (eCst (.bl false)))
    sNil)
    sNil)
    sNil))))))
    sNil))
    (sSeq (sAsgn (eOpN mkTup [(eCst (.str "given")), (eCst (.str "index")), (eCst (.str "reason")), (eCst (.str "none"))]) (gNam 2))
    (sSeq (sFor (iRng rng1 [(eCst (.int 4))]) (gNam 1)
    (sSeq (sAsgn (eCall (cf 439) [(eVar 0)]) (gNam 4))
    (sSeq (sIf (eNotT (eTru (eCall (cf 35) [(eCall (cf 361) [(eVar 1), (eVar 4)]), (eOpN mkTup [(eOp2 idxD (eVar 2) (eVar 1)), (eIf (eBl (eOp2 (cmpX .Lt) (eVar 1) (eCst (.int 3)))) (eVar 4) (eCst .non))])])))
    (sSeq (sRet (eCst (.bl false)))
    sNil)
    sNil)
    sNil)))
    (sSeq (sRet (eCst (.bl true)))
    sNil))))
abbrev I__law_right (C : Nat → CF) : Prop := ∀ d, C (d + 1) 378 = runD 1 8 (F__law_right (C d))
def F_law (cf : CF) : E Out :=
  (sSeq (sRet (eOpN (quanD fun bs => bs.all id) [(eLc (iRng rng1 [(eOpN maxX [(eCst (.int 1)), (eOpN minX [(eOpN lenD [(eVar 0)]), (eCst (.int 3))])])]) [1] (gNam 1) tTru (eCall (cf 378) [(eCall (cf 356) [(eVar 0), (eVar 1)])]))]))
    sNil)
abbrev I_law (C : Nat → CF) : Prop := ∀ d, C (d + 1) 788 = runD 1 2 (F_law (C d))
theorem t__law_pool : rowAt T 356 = some r__law_pool := find_self zB.nd (List.mem_of_getElem? (i := 0) rfl)
theorem d__law_pool (cf : CF) : r__law_pool.run md cf = runD 2 5 (F__law_pool cf) := by kernel_rfl
theorem c__law_pool : I__law_pool (callF T md) := fun d => callF_at (G := fun cf => runD 2 5 (F__law_pool cf)) t__law_pool rfl d__law_pool d
theorem t__law_below : rowAt T 92 = some r__law_below := find_self zB.nd (List.mem_of_getElem? (i := 1) rfl)
theorem d__law_below (cf : CF) : r__law_below.run md cf = runD 2 4 (F__law_below cf) := by kernel_rfl
theorem c__law_below : I__law_below (callF T md) := fun d => callF_at (G := fun cf => runD 2 4 (F__law_below cf)) t__law_below rfl d__law_below d
theorem t__law_one : rowAt T 335 = some r__law_one := find_self zB.nd (List.mem_of_getElem? (i := 2) rfl)
theorem d__law_one (cf : CF) : r__law_one.run md cf = runD 2 2 (F__law_one cf) := by kernel_rfl
theorem c__law_one : I__law_one (callF T md) := fun d => callF_at (G := fun cf => runD 2 2 (F__law_one cf)) t__law_one rfl d__law_one d
theorem t__law_great : rowAt T 183 = some r__law_great := find_self zB.nd (List.mem_of_getElem? (i := 3) rfl)
theorem d__law_great (cf : CF) : r__law_great.run md cf = runD 2 4 (F__law_great cf) := by kernel_rfl
theorem c__law_great : I__law_great (callF T md) := fun d => callF_at (G := fun cf => runD 2 4 (F__law_great cf)) t__law_great rfl d__law_great d
theorem t__law_thing : rowAt T 439 = some r__law_thing := find_self zB.nd (List.mem_of_getElem? (i := 4) rfl)
theorem d__law_thing (cf : CF) : r__law_thing.run md cf = runD 1 1 (F__law_thing cf) := by kernel_rfl
theorem c__law_thing : I__law_thing (callF T md) := fun d => callF_at (G := fun cf => runD 1 1 (F__law_thing cf)) t__law_thing rfl d__law_thing d
theorem t__law_copy : rowAt T 132 = some r__law_copy := find_self zB.nd (List.mem_of_getElem? (i := 5) rfl)
theorem d__law_copy (cf : CF) : r__law_copy.run md cf = runD 1 4 (F__law_copy cf) := by kernel_rfl
theorem c__law_copy : I__law_copy (callF T md) := fun d => callF_at (G := fun cf => runD 1 4 (F__law_copy cf)) t__law_copy rfl d__law_copy d
theorem t__law_alike : rowAt T 35 = some r__law_alike := find_self zB.nd (List.mem_of_getElem? (i := 6) rfl)
theorem d__law_alike (cf : CF) : r__law_alike.run md cf = runD 2 5 (F__law_alike cf) := by kernel_rfl
theorem c__law_alike : I__law_alike (callF T md) := fun d => callF_at (G := fun cf => runD 2 5 (F__law_alike cf)) t__law_alike rfl d__law_alike d
theorem t__law_made : rowAt T 282 = some r__law_made := find_self zB.nd (List.mem_of_getElem? (i := 7) rfl)
theorem d__law_made (cf : CF) : r__law_made.run md cf = runD 3 3 (F__law_made cf) := by kernel_rfl
theorem c__law_made : I__law_made (callF T md) := fun d => callF_at (G := fun cf => runD 3 3 (F__law_made cf)) t__law_made rfl d__law_made d
theorem t__law_made_others : rowAt T 283 = some r__law_made_others := find_self zB.nd (List.mem_of_getElem? (i := 8) rfl)
theorem d__law_made_others (cf : CF) : r__law_made_others.run md cf = runD 3 3 (F__law_made_others cf) := by kernel_rfl
theorem c__law_made_others : I__law_made_others (callF T md) := fun d => callF_at (G := fun cf => runD 3 3 (F__law_made_others cf)) t__law_made_others rfl d__law_made_others d
theorem t__law_marks : rowAt T 289 = some r__law_marks := find_self zB.nd (List.mem_of_getElem? (i := 9) rfl)
theorem d__law_marks (cf : CF) : r__law_marks.run md cf = runD 1 2 (F__law_marks cf) := by kernel_rfl
theorem c__law_marks : I__law_marks (callF T md) := fun d => callF_at (G := fun cf => runD 1 2 (F__law_marks cf)) t__law_marks rfl d__law_marks d
theorem t__law_kept : rowAt T 255 = some r__law_kept := find_self zB.nd (List.mem_of_getElem? (i := 10) rfl)
theorem d__law_kept (cf : CF) : r__law_kept.run md cf = runD 2 2 (F__law_kept cf) := by kernel_rfl
theorem c__law_kept : I__law_kept (callF T md) := fun d => callF_at (G := fun cf => runD 2 2 (F__law_kept cf)) t__law_kept rfl d__law_kept d
theorem t__law_raised : rowAt T 361 = some r__law_raised := find_self zB.nd (List.mem_of_getElem? (i := 11) rfl)
theorem d__law_raised (cf : CF) : r__law_raised.run md cf = runD 2 3 (F__law_raised cf) := by kernel_rfl
theorem c__law_raised : I__law_raised (callF T md) := fun d => callF_at (G := fun cf => runD 2 3 (F__law_raised cf)) t__law_raised rfl d__law_raised d
theorem t__law_right : rowAt T 378 = some r__law_right := find_self zB.nd (List.mem_of_getElem? (i := 12) rfl)
theorem d__law_right (cf : CF) : r__law_right.run md cf = runD 1 8 (F__law_right cf) := by kernel_rfl
theorem c__law_right : I__law_right (callF T md) := fun d => callF_at (G := fun cf => runD 1 8 (F__law_right cf)) t__law_right rfl d__law_right d
theorem t_law : rowAt T 788 = some r_law := find_self zB.nd (List.mem_of_getElem? (i := 13) rfl)
theorem d_law (cf : CF) : r_law.run md cf = runD 1 2 (F_law cf) := by kernel_rfl
theorem c_law : I_law (callF T md) := fun d => callF_at (G := fun cf => runD 1 2 (F_law cf)) t_law rfl d_law d
structure Us (C : Nat → CF) : Prop where
  u__law_pool : I__law_pool C
  u__law_below : I__law_below C
  u__law_one : I__law_one C
  u__law_great : I__law_great C
  u__law_thing : I__law_thing C
  u__law_copy : I__law_copy C
  u__law_alike : I__law_alike C
  u__law_made : I__law_made C
  u__law_made_others : I__law_made_others C
  u__law_marks : I__law_marks C
  u__law_kept : I__law_kept C
  u__law_raised : I__law_raised C
  u__law_right : I__law_right C
  u_law : I_law C
theorem us_ok : Us (callF T md) := ⟨c__law_pool, c__law_below, c__law_one, c__law_great, c__law_thing, c__law_copy, c__law_alike, c__law_made, c__law_made_others, c__law_marks, c__law_kept, c__law_raised, c__law_right, c_law⟩
end K00

set_option Elab.async false
set_option linter.all false
set_option maxRecDepth 100000
set_option maxHeartbeats 4000000
noncomputable section
namespace K00
open PySem PySem.Spec PyProof.Rows L2 Jm
section
variable {C : Nat → CF} {d : Nat} {S : Sto} {X : PX} {QD : D → Sto → Prop}
/-! ### the pool -/
def isPool (S : Sto) (l : Nat) : Prop := ∃ a b c : Int, S[l]? = some (.lst [.int a, .int b, .int c])
theorem isPool.ext {S' : Sto} {l : Nat} (h : isPool S l) (e : Ext S S') : isPool S' l := by
  obtain ⟨a, b, c, h⟩ := h
  exact ⟨a, b, c, e.get h⟩
theorem pool_ok (U : Us C) {ns : List Int} {j : Nat} (hn : ns.length ≤ 63) (hj : j < 10) : Wp (C (d + 1) 356 [.scr (ns.map .int), .int j] S) (fun r S' => Ext S S' ∧ ∃ k, r = .loc k ∧ S.length ≤ k ∧ isPool S' k) X := by
  rw [U.u__law_pool]
  simp only [wp_runD, F__law_pool]
  refine ⟨rfl, ?_⟩
  refine wp_sq fun K hK => ?_
  suffices fin0 : ∀ own, K (.nx [some (.scr (ns.map .int)), some (.int j), some (.int own), none, none]) S by
    simp
    refine ⟨fun hlt => ?_, fun _ => ⟨mulOk_l (by decide), fin0 _⟩⟩
    rw [idx_scr (y := .int ns[j]) (atI_nat (by rw [List.getElem?_map, List.getElem?_eq_getElem hlt]; rfl))]
    simp
    exact fin0 _
  intro own
  rw [hK, then_nx]
  clear hK K
  refine wp_sq fun K hK => ?_
  simp
  refine ⟨mulOk_l (by decide), ?_⟩
  rw [hK, then_nx]
  clear hK K
  refine wp_sq fun K hK => ?_
  simp
  obtain ⟨zs, ez, lz⟩ := cutD_map D.int ns none (some 63)
  rw [ez]
  refine ⟨by simp; omega, ?_⟩
  have hl3 : (S ++ [O.lst (zs.map D.int)])[S.length]? = some (.lst (zs.map D.int)) := get_new
  have hE3 : Ext S (S ++ [O.lst (zs.map D.int)]) := Ext.rfl'.app
  rw [wp_val hl3]
  have hq : S.length ≤ (S ++ [O.lst (zs.map D.int)]).length := hE3.le
  generalize S ++ [O.lst (zs.map D.int)] = S2 at hl3 hE3 hq
  have fin_ : ∀ (st : Int) (o : Option D), K (.nx [some (.scr (ns.map .int)), some (.int j), some (.int own), some (.int st), o]) S2 := fun st o => by
    rw [hK, then_nx]
    clear hK K
    refine wp_sq fun K hK => ?_
    simp
    refine ⟨mulOk_r (by decide), mulOk_r (by decide), ?_⟩
    rw [hK, then_nx]
    clear hK K
    simp
    exact ⟨fun _ => ⟨hE3.app, hE3.le, _, _, _, get_new⟩, fun _ => ⟨fun _ => ⟨hE3.app, hE3.le, _, _, _, get_new⟩, fun _ => ⟨hE3.app, hE3.le, _, _, _, get_new⟩⟩⟩
  refine wp_lstL (xs := zs.map D.int) (fun i n S' => S' = S2 ∧ ∃ (st : Int) (o : Option D), n = [some (.scr (ns.map .int)), some (.int j), some (.int own), some (.int st), o]) ⟨rfl, _, _, rfl⟩ (fuel_of (by simp; omega)) (fun i n S' h => by rw [h.1]; exact hl3) ?_ ?_
  · rintro i x n S' T hT hx ⟨rfl, st, o, rfl⟩
    obtain ⟨v, hv, rfl⟩ := map_get hx
    simp
    refine ⟨mulOk_r (by decide), ?_⟩
    rw [hT, turn_nx]
    exact ⟨rfl, _, _, rfl⟩
  · rintro n S' ⟨rfl, st, o, rfl⟩
    exact fin_ st o
theorem below_ok (U : Us C) {l m : Nat} (hl : isPool S l) (h1 : 1 ≤ m) (h2 : m ≤ 1000000) : Wp (C (d + 1) 92 [.loc l, .int m] S) (fun r S' => Mod l S S' ∧ isPool S' l ∧ ∃ k : Nat, r = .int k ∧ k < m) X := by
  obtain ⟨a, b, c, hl⟩ := hl
  have fin_ : ∀ t : Int, ∃ k : Nat, D.int (t % m) = .int k ∧ k < m := fun t => by
    have e1 := Int.emod_nonneg t (b := (m : Int)) (by omega)
    have e2 := Int.emod_lt_of_pos t (b := (m : Int)) (by omega)
    exact ⟨(t % m).toNat, by rw [Int.toNat_of_nonneg e1], by omega⟩
  rw [U.u__law_below]
  simp only [wp_runD, F__law_below]
  refine ⟨rfl, ?_⟩
  refine wp_sq fun K hK => ?_
  have e0 : idxD (.loc l) (.int 0) S = some (.int a, S) := idx_lst hl (by rfl)
  simp [e0]
  refine ⟨fun hgt => ⟨by omega, ?_⟩, fun hle => ?_⟩
  · have p0 : ∀ z, putD (.loc l) (.int 0) z S = some (S.set l (.lst [z, .int b, .int c])) := fun z => put_lst (i := 0) hl (by simp)
    rw [p0]
    simp
    refine ⟨divOk_of (by omega) (by omega), ?_⟩
    rw [hK, then_rt, wp_ok]
    exact ⟨Mod.rfl'.setp, ⟨_, _, _, get_set hl⟩, fin_ a⟩
  · rw [hK, then_nx]
    clear hK K
    refine wp_sq fun K hK => ?_
    have e2 : idxD (.loc l) (.int 2) S = some (.int c, S) := idx_lst hl (by rfl)
    have p2 : ∀ z, putD (.loc l) (.int 2) z S = some (S.set l (.lst [.int a, .int b, z])) := fun z => put_lst (i := 2) hl (by simp)
    simp [e2, p2]
    rw [hK, then_nx]
    clear hK K
    have hl1 : (S.set l (.lst [.int a, .int b, .int (c + 1)]))[l]? = some (.lst [.int a, .int b, .int (c + 1)]) := get_set hl
    have hM : Mod l S (S.set l (.lst [.int a, .int b, .int (c + 1)])) := Mod.rfl'.setp
    generalize S.set l (.lst [.int a, .int b, .int (c + 1)]) = S1 at hl1 hM
    refine wp_sq fun K hK => ?_
    have i1 : idxD (.loc l) (.int 1) S1 = some (.int b, S1) := idx_lst hl1 (by rfl)
    have i2 : idxD (.loc l) (.int 2) S1 = some (.int (c + 1), S1) := idx_lst hl1 (by rfl)
    have p1 : ∀ z, putD (.loc l) (.int 1) z S1 = some (S1.set l (.lst [.int a, z, .int (c + 1)])) := fun z => put_lst (i := 1) hl1 (by simp)
    simp [i1, i2]
    refine ⟨mulOk_r (by decide), mulOk_r (by decide), ?_⟩
    rw [hK, then_nx]
    clear hK K
    refine wp_sq fun K hK => ?_
    simp [i1, i2, p1]
    refine ⟨mulOk_r (by omega), ?_⟩
    rw [hK, then_nx]
    clear hK K
    generalize hz : (_ : Int) % 2147483563 = z
    have hl2 : (S1.set l (.lst [.int a, .int z, .int (c + 1)]))[l]? = some (.lst [.int a, .int z, .int (c + 1)]) := get_set hl1
    have hM2 : Mod l S (S1.set l (.lst [.int a, .int z, .int (c + 1)])) := hM.setp
    generalize S1.set l (.lst [.int a, .int z, .int (c + 1)]) = S2 at hl2 hM2
    have i3 : idxD (.loc l) (.int 1) S2 = some (.int z, S2) := idx_lst hl2 (by rfl)
    simp [i3]
    refine ⟨divOk_of (by decide) (by decide), by omega, hM2, ⟨_, _, _, hl2⟩, ?_⟩
    obtain ⟨k, e, h⟩ := fin_ (z / 61)
    exact ⟨k, by simpa using e, h⟩
end
end K00

set_option Elab.async false
set_option linter.all false
set_option maxRecDepth 100000
set_option maxHeartbeats 4000000
noncomputable section
namespace K00
open PySem PySem.Spec PyProof.Rows L2 Jm
section
variable {C : Nat → CF} {d : Nat} {S : Sto} {X : PX} {QD : D → Sto → Prop}
theorem one_tup (U : Us C) {l : Nat} {xs : List D} (hl : isPool S l) (h1 : xs ≠ []) (h2 : xs.length ≤ 1000000) : Wp (C (d + 1 + 1) 335 [.loc l, .tup xs] S) (fun r S' => Mod l S S' ∧ isPool S' l ∧ ∃ i : Nat, xs[i]? = some r) X := by
  rw [U.u__law_one]
  simp only [wp_runD, F__law_one]
  refine ⟨rfl, ?_⟩
  simp
  refine (below_ok U (m := xs.length) hl (by have := List.length_pos_iff.mpr h1; omega) h2).q ?_
  rintro r S1 ⟨hM, hp, k, rfl, hk⟩
  have : idxD (.tup xs) (.int k) S1 = some (xs[k], S1) := idx_tup (atI_nat (List.getElem?_eq_getElem hk))
  rw [this]
  simp
  exact ⟨hM, hp, k, List.getElem?_eq_getElem hk⟩
theorem one_lst (U : Us C) {l k : Nat} {xs : List D} (hl : isPool S l) (hk : S[k]? = some (.lst xs)) (hkl : k ≠ l) (h1 : xs ≠ []) (h2 : xs.length ≤ 1000000) : Wp (C (d + 1 + 1) 335 [.loc l, .loc k] S) (fun r S' => Mod l S S' ∧ isPool S' l ∧ ∃ i : Nat, xs[i]? = some r) X := by
  rw [U.u__law_one]
  simp only [wp_runD, F__law_one]
  refine ⟨rfl, ?_⟩
  simp
  rw [len_lst hk]
  simp only [wp_some]
  refine (below_ok U (m := xs.length) hl (by have := List.length_pos_iff.mpr h1; omega) h2).q ?_
  rintro r S1 ⟨hM, hp, j, rfl, hj⟩
  have : idxD (.loc k) (.int j) S1 = some (xs[j], S1) := idx_lst (hM.2 k _ hkl hk) (atI_nat (List.getElem?_eq_getElem hj))
  rw [this]
  simp
  exact ⟨hM, hp, j, List.getElem?_eq_getElem hj⟩
theorem perm_at {A : Type} {L : List A} {k : Nat} {a : A} (h : L[k]? = some a) : L.Perm (a :: (L.take k ++ L.drop (k + 1))) := by
  obtain ⟨hk, rfl⟩ := List.getElem?_eq_some_iff.mp h
  have : L = L.take k ++ (L[k] :: L.drop (k + 1)) := by rw [← List.drop_eq_getElem_cons hk, List.take_append_drop]
  have h2 : (L.take k ++ (L[k] :: L.drop (k + 1))).Perm (L[k] :: (L.take k ++ L.drop (k + 1))) := List.perm_middle
  rw [← this] at h2
  exact h2
def PairAt (S : Sto) (x : D) (p : Int × Int) : Prop := x = pr p ∨ ∃ l, x = .loc l ∧ S[l]? = some (.lst [.int p.1, .int p.2])
end
end K00

set_option Elab.async false
set_option linter.all false
set_option maxRecDepth 100000
set_option maxHeartbeats 4000000
noncomputable section
namespace K00
open PySem PySem.Spec PyProof.Rows L2 Jm
section
variable {C : Nat → CF} {d : Nat} {p : Px} {S : Sto} {X : PX} {QD : D → Sto → Prop}
theorem copy_sc (U : Us C) {t : Tr} {v : D} (h : Tt p S t v) (hs : t.sc = true) : Wp (C (d + 1) 132 [v] S) (fun r S' => S' = S ∧ r = v) X := by
  rw [U.u__law_copy]
  simp only [wp_runD, F__law_copy]
  refine ⟨rfl, ?_⟩
  have i1 := h.inst (u := .tuple) rfl
  have i2 := h.inst (u := .list) rfl
  have i3 := h.inst (u := .dict) rfl
  have e1 : subT t.ty .tuple = false := by cases t <;> first | rfl | cases hs
  have e2 : subT t.ty .list = false := by cases t <;> first | rfl | cases hs
  have e3 : subT t.ty .dict = false := by cases t <;> first | rfl | cases hs
  rw [e1] at i1
  rw [e2] at i2
  rw [e3] at i3
  simp [i1, i2, i3]
/-- all is kept, but dicts may freeze -/
structure Mx (S S' : Sto) : Prop where
  le : S.length ≤ S'.length
  all : ∀ q, Mz q S S'
theorem Mx.rfl' {S : Sto} : Mx S S := ⟨Nat.le_refl _, fun q => Mz.rfl'⟩
theorem Mx.of_ext {S S' : Sto} (h : Ext S S') : Mx S S' := ⟨(Mz.of_ext (p := 0) h).1, fun q => Mz.of_ext h⟩
theorem Mx.trans {S S' S'' : Sto} (a : Mx S S') (b : Mx S' S'') : Mx S S'' := ⟨Nat.le_trans a.1 b.1, fun q => (a.2 q).trans (b.2 q)⟩
theorem Mx.ext {S S' S'' : Sto} (a : Mx S S') (b : Ext S' S'') : Mx S S'' := a.trans (.of_ext b)
theorem Mx.app {S S' G : Sto} (a : Mx S S') : Mx S (S' ++ G) := a.ext (List.prefix_append ..)
theorem Mx.lst {S S' : Sto} (a : Mx S S') {p k : Nat} {xs : List D} (n : k ≠ p) (h : S[k]? = some (.lst xs)) : S'[k]? = some (.lst xs) := (a.2 p).lst n h
theorem Mx.setn {S S' : Sto} {l : Nat} {o : O} (a : Mx S S') (h : S.length ≤ l) : Mx S (S'.set l o) := ⟨by rw [List.length_set]; exact a.1, fun q => (a.2 q).setn h⟩
theorem Mx.frz {S S' : Sto} {l : Nat} {kvs : List (Key × D)} (a : Mx S S') (h : S'[l]? = some (.dct kvs)) : Mx S (S'.set l (.dctZ kvs)) := ⟨by rw [List.length_set]; exact a.1, fun q => (a.2 q).frz h⟩
theorem Mx.pool {S S' : Sto} {l : Nat} (a : Mx S S') (h : isPool S l) : isPool S' l := let ⟨x, y, z, e⟩ := h; ⟨x, y, z, a.lst (p := l + 1) (by omega) e⟩
/-- a copy through and through -/
theorem copy_ok (U : Us C) : ∀ (n : Nat) (t : Tr) (v : D) (S : Sto) (X : PX), t.dep ≤ n → Tt p S t v → p.l < S.length ∧ p.q ≤ S.length → Wp (C (d + n) 132 [v] S) (fun r S' => Mx S S' ∧ Tt p S' t r) X
  | 0, t, v, S, X, hd, _, _ => by have := t.dep_pos; omega
  | n + 1, t, v, S, X, hd, h, hp => by
    rw [show d + (n + 1) = (d + n) + 1 by omega, U.u__law_copy]
    simp only [wp_runD, F__law_copy]
    refine ⟨rfl, ?_⟩
    refine wp_sq fun K hK => ?_
    simp
    rw [h.inst (u := .tuple) rfl]
    simp
    cases h with
    | @tup ts ds hl r =>
      have hd : Tr.deps ts + 1 ≤ n + 1 := hd
      refine ⟨fun _ => ?_, fun z => (nomatch z)⟩
      refine wp_fixC (xs := ds) (fun i a S' => Mx S S' ∧ Tts p S' (ts.take i) a) ⟨.rfl', .nil⟩ (fuel_of (by omega)) ?_ ?_
      · rintro i x a S2 K2 hK2 hx ⟨hM, hA⟩
        obtain ⟨tx, h1, h2⟩ := r.get hx
        have := dep_at h1
        have hal := hA.len
        rw [List.length_take] at hal
        have hi := (List.getElem?_eq_some_iff.mp hx).1
        simp [wipeD]
        refine (copy_ok U n tx x S2 _ (by omega) (h2.mono (hM.2 p)) (by have := hM.1; have := hp.1; have := hp.2; omega)).q ?_
        rintro y S3 ⟨hM3, hy⟩
        rw [hK2]
        refine ⟨line_of (by omega), hM.trans hM3, ?_⟩
        rw [take_succ h1]
        exact (hA.mono (hM3.2 p)).snoc hy
      · rintro a S2 ⟨hM, hA⟩
        rw [List.take_of_length_le (by rw [r.len]; exact Nat.le_refl _)] at hA
        have hal := hA.len
        have hrl := r.len
        rw [tuple_lst get_new]
        simp only [wp_mkTup]
        refine ⟨line_le (by omega), ?_⟩
        rw [hK, then_rt, wp_ok]
        exact ⟨hM.app, .tup (by omega) (hA.mono (Mz.of_ext Ext.rfl'.app))⟩
    | @lst ts ds k hl hk hS r =>
      have hd : Tr.deps ts + 1 ≤ n + 1 := hd
      refine ⟨fun z => (nomatch z), fun _ => ?_⟩
      rw [hK, then_nx]
      refine wp_sq fun K2 hK2 => ?_
      simp
      rw [(Tt.lst hl hk hS r).inst (u := .list) rfl]
      simp
      refine ⟨fun _ => ?_, fun z => (nomatch z)⟩
      rw [wp_val hS]
      refine wp_lstC (xs := ds) (fun i a S' => Mx S S' ∧ Tts p S' (ts.take i) a) ⟨.rfl', .nil⟩ (fuel_of (by omega)) (fun i a S' h => h.1.lst (p := p) hk.ne hS) ?_ ?_
      · rintro i x a S2 K3 hK3 hx ⟨hM, hA⟩
        obtain ⟨tx, h1, h2⟩ := r.get hx
        have := dep_at h1
        have hal := hA.len
        rw [List.length_take] at hal
        have hi := (List.getElem?_eq_some_iff.mp hx).1
        simp [wipeD]
        refine (copy_ok U n tx x S2 _ (by omega) (h2.mono (hM.2 p)) (by have := hM.1; have := hp.1; have := hp.2; omega)).q ?_
        rintro y S3 ⟨hM3, hy⟩
        rw [hK3]
        refine ⟨line_of (by omega), hM.trans hM3, ?_⟩
        rw [take_succ h1]
        exact (hA.mono (hM3.2 p)).snoc hy
      · rintro a S2 ⟨hM, hA⟩
        rw [List.take_of_length_le (by rw [r.len]; exact Nat.le_refl _)] at hA
        have hal := hA.len
        have hrl := r.len
        rw [hK2, then_rt, wp_ok]
        have := hM.1
        exact ⟨hM.app, .lst (by omega) ⟨by have := hp.1; omega, by have := hp.2; omega⟩ get_new (hA.mono (Mz.of_ext Ext.rfl'.app))⟩
    | @dct ts kvs k hl hnd hsc hk hS r =>
      have hd : Tr.depk ts + 1 ≤ n + 1 := hd
      refine ⟨fun z => (nomatch z), fun _ => ?_⟩
      rw [hK, then_nx]
      refine wp_sq fun K2 hK2 => ?_
      simp
      rw [(Tt.dct hl hnd hsc hk hS r).inst (u := .list) rfl]
      simp
      refine ⟨fun z => (nomatch z), fun _ => ?_⟩
      rw [hK2, then_nx]
      refine wp_sq fun K3 hK3 => ?_
      simp
      rw [(Tt.dct hl hnd hsc hk hS r).inst (u := .dict) rfl]
      simp
      refine ⟨fun _ => ?_, fun z => (nomatch z)⟩
      have hkl : k < S.length := by rcases hS with e | e <;> exact get_lt e
      have hS1 : (S ++ [O.dct []])[k]? = some (.dct kvs) ∨ (S ++ [O.dct []])[k]? = some (.dctZ kvs) := hS.imp (fun e => (Ext.rfl'.app).get e) (fun e => (Ext.rfl'.app).get e)
      have hq1 : (S ++ [O.dct []])[S.length]? = some (.dct []) := get_new
      have hM1 : Mx S (S ++ [O.dct []]) := Mx.rfl'.app
      generalize S ++ [O.dct []] = S1 at hS1 hq1 hM1
      have fin : ∀ S2, Mx S S2 → S2[k]? = some (.dctZ kvs) → S2[S.length]? = some (.dct []) → Wp (loopF (.keys k) (gNam 2) (sSeq (sAsgn (eCall (C (d + n) 132) [eOp2 idxD (eVar 0) (eVar 2)]) (gSubs (eVar 1) (eVar 2))) sNil) FUEL 0 [some (.loc k), some (.loc S.length), none, none] S2) (fun o S1 => Wp (sThen o (sSeq (sRet (eVar 1)) sNil) S1) K3 nX) nX := by
        intro S2 hM2 hZ2 hq2
        refine wp_itL (items := kvs.map fun kv => kD kv.1) (fun i m S' => Mx S S' ∧ S'[k]? = some (.dctZ kvs) ∧ ∃ (o2 o3 : Option D), m = [some (.loc k), some (.loc S.length), o2, o3] ∧ S'[S.length]? = some (.dct (kvs.take i))) ⟨hM2, hZ2, _, _, rfl, hq2⟩ (fuel_of (by rw [List.length_map]; omega)) (fun i m S' h => next_keys h.2.1) ?_ ?_
        · rintro i x m S3 T hT hx ⟨hM3, hZ3, o2, o3, rfl, hq3⟩
          obtain ⟨⟨key, dv⟩, hkv, rfl⟩ := map_get hx
          obtain ⟨tx, h1, h2⟩ := r.get hkv
          have := depk_at h1
          have hi := (List.getElem?_eq_some_iff.mp hkv).1
          simp only [wp_gNam, List.set_cons_succ, List.set_cons_zero]
          refine wp_sq fun K6 hK6 => ?_
          simp only [wp_sAsgn, wp_call, wp_all, wp_all0, wp_op2, wp_var, List.getElem?_cons_zero, List.getElem?_cons_succ]
          rw [idx_Z (.inr hZ3) (kvGet_at hnd hkv)]
          simp only [wp_some]
          obtain ⟨m1, rfl⟩ : ∃ m, n = m + 1 := ⟨n - 1, by have := tx.dep_pos; omega⟩
          refine (copy_sc U (d := d + m1) (h2.mono (hM3.2 p)) (hsc _ (List.mem_of_getElem? h1))).q ?_
          rintro _ _ ⟨rfl, rfl⟩
          have hnk : key ∉ (kvs.take i).map (·.1) := fun z => by
            have e : (kvs.map (·.1)).take (i + 1) = (kvs.take i).map (·.1) ++ [key] := by
              rw [← List.map_take, take_succ hkv, List.map_append]; rfl
            have nd2 : ((kvs.map (·.1)).take (i + 1)).Nodup := hnd.sublist (List.take_sublist _ _)
            rw [e] at nd2
            exact (List.nodup_append.mp nd2).2.2 key z key (by simp) rfl
          refine wp_gSubsP (k := S.length) (key := key) (fun _ => rfl) (fun _ => rfl) hq3 (line_of (by rw [List.length_take]; omega)) ?_
          rw [hK6, then_nx, wp_sNil, hT, turn_nx]
          refine ⟨hM3.setn (Nat.le_refl _), get_ne hZ3 (by omega), _, _, rfl, ?_⟩
          rw [get_set hq3, kvPut_new hnk, take_succ hkv]
        · rintro m S3 ⟨hM3, hZ3, o2, o3, rfl, hq3⟩
          rw [List.take_of_length_le (by rw [List.length_map]; exact Nat.le_refl _)] at hq3
          rw [then_nx]
          simp
          rw [hK3, then_rt, wp_ok]
          have hSl := hp
          exact ⟨hM3, .dct hl hnd hsc ⟨by have := hp.1; omega, hp.2⟩ (.inl hq3) (r.mono (hM3.2 p))⟩
      rcases hS1 with e | e
      · rw [wp_valK e]
        exact fin _ (hM1.frz e) (get_set e) (get_ne hq1 (by omega))
      · rw [wp_valZ e]
        exact fin _ hM1 e hq1
    | non => exact ⟨fun z => (nomatch z), fun _ => by
      rw [hK, then_nx]
      simp [show instD [D.non, .ty .list] S = some (.bl false, S) from rfl, show instD [D.non, .ty .dict] S = some (.bl false, S) from rfl]
      exact ⟨Mx.rfl', .non⟩⟩
    | bl b => exact ⟨fun z => (nomatch z), fun _ => by
      rw [hK, then_nx]
      simp [show instD [D.bl b, .ty .list] S = some (.bl false, S) from rfl, show instD [D.bl b, .ty .dict] S = some (.bl false, S) from rfl]
      exact ⟨Mx.rfl', .bl b⟩⟩
    | int i => exact ⟨fun z => (nomatch z), fun _ => by
      rw [hK, then_nx]
      simp [show instD [D.int i, .ty .list] S = some (.bl false, S) from rfl, show instD [D.int i, .ty .dict] S = some (.bl false, S) from rfl]
      exact ⟨Mx.rfl', .int i⟩⟩
    | @str x hx => exact ⟨fun z => (nomatch z), fun _ => by
      rw [hK, then_nx]
      simp [show instD [D.str x, .ty .list] S = some (.bl false, S) from rfl, show instD [D.str x, .ty .dict] S = some (.bl false, S) from rfl]
      exact ⟨Mx.rfl', .str hx⟩⟩
/-- alike: the same tree -/
theorem alike_ok (U : Us C) : ∀ (n : Nat) (t : Tr) (v e : D) (S : Sto) (X : PX), t.dep ≤ n → Tt p S t v → Tt p S t e → p.l < S.length ∧ p.q ≤ S.length → Wp (C (d + n) 35 [v, e] S) (fun r S' => Mx S S' ∧ r = .bl true) X
  | 0, t, v, e, S, X, hd, _, _, _ => by have := t.dep_pos; omega
  | n + 1, t, v, e, S, X, hd, hv, he, hp => by
    rw [show d + (n + 1) = (d + n) + 1 by omega, U.u__law_alike]
    simp only [wp_runD, F__law_alike]
    refine ⟨rfl, ?_⟩
    refine wp_sq fun K hK => ?_
    have i1 := he.inst (u := .bool) rfl
    have i2 := he.inst (u := .int) rfl
    have i3 := he.inst (u := .str) rfl
    have i4 := he.inst (u := .dict) rfl
    have j1 := hv.inst (u := .bool) rfl
    have j2 := hv.inst (u := .int) rfl
    have j3 := hv.inst (u := .str) rfl
    have j4 := hv.inst (u := .dict) rfl
    have e5 : ∀ u, okT u = true → instD [e, .ty u] S = some (.bl (subT t.ty u), S) := fun u hu => he.inst hu
    have v5 : ∀ u, okT u = true → instD [v, .ty u] S = some (.bl (subT t.ty u), S) := fun u hu => hv.inst hu
    have en := he.isN
    have vn := hv.isN
    have it := e5 .tuple rfl
    have il := e5 .list rfl
    have jt := v5 .tuple rfl
    have jl := v5 .list rfl
    simp [en]
    cases hv with
    | non =>
      cases he
      refine ⟨fun _ => ?_, fun z => (nomatch z)⟩
      rw [vn]
      simp
      rw [hK, then_rt, wp_ok]
      exact ⟨Mx.rfl', rfl⟩
    | bl b =>
      cases he
      refine ⟨fun z => (nomatch z), fun _ => ?_⟩
      rw [hK, then_nx]
      refine wp_sq fun K2 hK2 => ?_
      simp [i1, j1, show subT (Tr.bl b).ty .bool = true from rfl]
      rw [hK2, then_rt, wp_ok]
      exact ⟨Mx.rfl', rfl⟩
    | int i =>
      cases he
      refine ⟨fun z => (nomatch z), fun _ => ?_⟩
      rw [hK, then_nx]
      refine wp_sq fun K2 hK2 => ?_
      simp [i1, show subT (Tr.int i).ty .bool = false from rfl]
      rw [hK2, then_nx]
      refine wp_sq fun K3 hK3 => ?_
      simp [i2, j1, j2, show subT (Tr.int i).ty .int = true from rfl, show subT (Tr.int i).ty .bool = false from rfl, eqD_int]
      rw [hK3, then_rt, wp_ok]
      exact ⟨Mx.rfl', rfl⟩
    | @str x hx =>
      cases he
      refine ⟨fun z => (nomatch z), fun _ => ?_⟩
      rw [hK, then_nx]
      refine wp_sq fun K2 hK2 => ?_
      simp [i1, show subT (Tr.str x).ty .bool = false from rfl]
      rw [hK2, then_nx]
      refine wp_sq fun K3 hK3 => ?_
      simp [i2, show subT (Tr.str x).ty .int = false from rfl]
      rw [hK3, then_nx]
      refine wp_sq fun K4 hK4 => ?_
      simp [i3, j3, show subT (Tr.str x).ty .str = true from rfl, eq_strs hx]
      rw [hK4, then_rt, wp_ok]
      exact ⟨Mx.rfl', rfl⟩
    | @dct ts kvs k hl hnd hsc hk hS r =>
      cases he with
      | @dct _ kvs2 k2 hl2 hnd2 _ hk2 hS2 r2 =>
      have hd : Tr.depk ts + 1 ≤ n + 1 := hd
      refine ⟨fun z => (nomatch z), fun _ => ?_⟩
      rw [hK, then_nx]
      refine wp_sq fun K2 hK2 => ?_
      simp [i1, show subT (Tr.dct ts).ty .bool = false from rfl]
      rw [hK2, then_nx]
      refine wp_sq fun K3 hK3 => ?_
      simp [i2, show subT (Tr.dct ts).ty .int = false from rfl]
      rw [hK3, then_nx]
      refine wp_sq fun K4 hK4 => ?_
      simp [i3, show subT (Tr.dct ts).ty .str = false from rfl]
      rw [hK4, then_nx]
      refine wp_sq fun K5 hK5 => ?_
      simp [i4, show subT (Tr.dct ts).ty .dict = true from rfl]
      have hll : (kvs.length : Int) = kvs2.length := by rw [← r.len, r2.len]
      simp [j4, show subT (Tr.dct ts).ty .dict = true from rfl, len_K hS, len_K hS2, hll]
      have fin : ∀ (XX : PX) S2, Mx S S2 → S2[k2]? = some (.dctZ kvs2) → Wp (lcF (.keys k2) (gNam 2) tTru (eAnd (eOp2 (cmpX .In) (eVar 2) (eVar 0)) (eCall (C (d + n) 35) [eOp2 idxD (eVar 0) (eVar 2), eOp2 idxD (eVar 1) (eVar 2)])) [some (.loc k), some (.loc k2), none, none, none] FUEL 0 [] S2) (fun ys S3 => Wp (lft (quanD (fun bs => bs.all id) [.loc S3.length] (S3 ++ [.lst ys]))) (fun a S4 => K5 (.rt a) S4) XX) nX := by
        intro XX S2 hM2 hZ2
        refine wp_itC (items := kvs2.map fun kv => kD kv.1) (fun i a S' => Mx S S' ∧ S'[k2]? = some (.dctZ kvs2) ∧ a = (List.replicate i true).map D.bl) ⟨hM2, hZ2, rfl⟩ (fuel_of (by rw [List.length_map]; omega)) (fun i a S' h => next_keys h.2.1) ?_ ?_
        · rintro i x a S3 K7 hK7 hx ⟨hM3, hZ3, rfl⟩
          obtain ⟨⟨key, dv⟩, hkv, rfl⟩ := map_get hx
          obtain ⟨tx, h1, h2⟩ := r2.get hkv
          obtain ⟨dw, h3, h4⟩ := r.get' h1
          have := depk_at h1
          have hi := (List.getElem?_eq_some_iff.mp hkv).1
          have hS3 : S3[k]? = some (.dct kvs) ∨ S3[k]? = some (.dctZ kvs) := by
            cases Tt.mono (hM3.2 p) (Tt.dct hl hnd hsc hk hS r) with
            | @dct _ kvs4 _ _ _ _ _ hS4 r4 =>
              rcases hS with e | e
              · rcases (hM3.2 p).2 k _ hk.ne e with e2 | ⟨_, e3, e2⟩
                · exact .inl e2
                · cases e3; exact .inr e2
              · rcases (hM3.2 p).2 k _ hk.ne e with e2 | ⟨_, e3, e2⟩
                · exact .inr e2
                · cases e3
          simp [wipeD]
          rw [in_K hS3 (kvGet_at hnd h3)]
          simp
          rw [idx_Z hS3 (kvGet_at hnd h3)]
          simp only [wp_some]
          rw [idx_Z (.inr hZ3) (kvGet_at hnd2 hkv)]
          simp only [wp_some]
          refine (alike_ok U n tx dw dv S3 _ (by omega) (h4.mono (hM3.2 p)) (h2.mono (hM3.2 p)) (by have := hM3.1; have := hp.1; have := hp.2; omega)).q ?_
          rintro _ S4 ⟨hM4, rfl⟩
          rw [hK7]
          refine ⟨line_of (by simp; omega), hM3.trans hM4, ?_, ?_⟩
          · rcases (hM4.2 p).2 k2 _ hk2.ne hZ3 with e2 | ⟨_, e3, _⟩
            · exact e2
            · cases e3
          · rw [List.replicate_succ']; simp
        · rintro a S3 ⟨hM3, hZ3, rfl⟩
          rw [quan_lst (bs := List.replicate _ true) get_new]
          simp only [wp_some]
          rw [hK5, then_rt, wp_ok]
          exact ⟨hM3.app, by simp⟩
      rcases hS2 with e | e
      · rw [wp_valK e]
        exact fin _ _ (Mx.rfl'.frz e) (get_set e)
      · rw [wp_valZ e]
        exact fin _ _ Mx.rfl' e
    | @tup ts ds hl r =>
      cases he with
      | @tup _ es hl2 r2 =>
      have hd : Tr.deps ts + 1 ≤ n + 1 := hd
      refine ⟨fun z => (nomatch z), fun _ => ?_⟩
      rw [hK, then_nx]
      refine wp_sq fun K2 hK2 => ?_
      simp [i1, show subT (Tr.tup ts).ty .bool = false from rfl]
      rw [hK2, then_nx]
      refine wp_sq fun K3 hK3 => ?_
      simp [i2, show subT (Tr.tup ts).ty .int = false from rfl]
      rw [hK3, then_nx]
      refine wp_sq fun K4 hK4 => ?_
      simp [i3, show subT (Tr.tup ts).ty .str = false from rfl]
      rw [hK4, then_nx]
      refine wp_sq fun K5 hK5 => ?_
      simp [i4, show subT (Tr.tup ts).ty .dict = false from rfl]
      rw [hK5, then_nx]
      refine wp_sq fun K6 hK6 => ?_
      simp [it, il, jt, jl, ne_bls]
      rw [hK6, then_nx]
      have hll : ds.length = es.length := by rw [← r.len, r2.len]
      simp [hll, eqD_int, wipeD]
      rw [wp_zipT]
      refine wp_itC (items := zipD ds es) (fun i a S' => Mx S S' ∧ a = (List.replicate i true).map D.bl) ⟨Mx.rfl', rfl⟩ (fuel_of (by rw [zipD_len]; omega)) (fun i a S' h => next_zipT) ?_ ?_
      · rintro i y a S1 K7 hK7 hy ⟨hM1, rfl⟩
        obtain ⟨x, x2, h1, h2, rfl⟩ := zipD_get hy
        obtain ⟨tx, h3, h4⟩ := r.get h1
        obtain ⟨x3, h5, h6⟩ := r2.get' h3
        rw [h2] at h5
        cases h5
        have := dep_at h3
        have hi := (List.getElem?_eq_some_iff.mp h1).1
        simp [wipeD]
        refine (alike_ok U n tx x x2 S1 _ (by omega) (h4.mono (hM1.2 p)) (h6.mono (hM1.2 p)) (by have := hM1.1; have := hp.1; have := hp.2; omega)).q ?_
        rintro _ S2 ⟨hM2, rfl⟩
        rw [hK7]
        refine ⟨line_of (by simp; omega), hM1.trans hM2, ?_⟩
        rw [List.replicate_succ']; simp
      · rintro a S1 ⟨hM1, rfl⟩
        rw [quan_lst (bs := List.replicate _ true) get_new]
        simp only [wp_some]
        exact ⟨hM1.app, by simp⟩
    | @lst ts ds k hl hk hS r =>
      cases he with
      | @lst _ es k2 hl2 hk2 hS2 r2 =>
      have hd : Tr.deps ts + 1 ≤ n + 1 := hd
      refine ⟨fun z => (nomatch z), fun _ => ?_⟩
      rw [hK, then_nx]
      refine wp_sq fun K2 hK2 => ?_
      simp [i1, show subT (Tr.lst ts).ty .bool = false from rfl]
      rw [hK2, then_nx]
      refine wp_sq fun K3 hK3 => ?_
      simp [i2, show subT (Tr.lst ts).ty .int = false from rfl]
      rw [hK3, then_nx]
      refine wp_sq fun K4 hK4 => ?_
      simp [i3, show subT (Tr.lst ts).ty .str = false from rfl]
      rw [hK4, then_nx]
      refine wp_sq fun K5 hK5 => ?_
      simp [i4, show subT (Tr.lst ts).ty .dict = false from rfl]
      rw [hK5, then_nx]
      refine wp_sq fun K6 hK6 => ?_
      simp [it, il, jt, jl, ne_bls]
      rw [hK6, then_nx]
      have hll : ds.length = es.length := by rw [← r.len, r2.len]
      simp [len_lst hS, len_lst hS2, hll, eqD_int, wipeD]
      rw [wp_zipL hS hS2]
      refine wp_itC (items := zipD ds es) (fun i a S' => Mx S S' ∧ a = (List.replicate i true).map D.bl) ⟨Mx.rfl', rfl⟩ (fuel_of (by rw [zipD_len]; omega)) (fun i a S' h => next_zipL (h.1.lst (p := p) hk.ne hS) (h.1.lst (p := p) hk2.ne hS2)) ?_ ?_
      · rintro i y a S1 K7 hK7 hy ⟨hM1, rfl⟩
        obtain ⟨x, x2, h1, h2, rfl⟩ := zipD_get hy
        obtain ⟨tx, h3, h4⟩ := r.get h1
        obtain ⟨x3, h5, h6⟩ := r2.get' h3
        rw [h2] at h5
        cases h5
        have := dep_at h3
        have hi := (List.getElem?_eq_some_iff.mp h1).1
        simp [wipeD]
        refine (alike_ok U n tx x x2 S1 _ (by omega) (h4.mono (hM1.2 p)) (h6.mono (hM1.2 p)) (by have := hM1.1; have := hp.1; have := hp.2; omega)).q ?_
        rintro _ S2 ⟨hM2, rfl⟩
        rw [hK7]
        refine ⟨line_of (by simp; omega), hM1.trans hM2, ?_⟩
        rw [List.replicate_succ']; simp
      · rintro a S1 ⟨hM1, rfl⟩
        rw [quan_lst (bs := List.replicate _ true) get_new]
        simp only [wp_some]
        exact ⟨hM1.app, by simp⟩
end
end K00

set_option Elab.async false
set_option linter.all false
set_option maxRecDepth 100000
set_option maxHeartbeats 4000000
noncomputable section
namespace K00
open PySem PySem.Spec PyProof.Rows L2 Jm
section
variable {C : Nat → CF} {d m : Nat} {l : Px} {S S' : Sto} {X : PX} {QD : D → Sto → Prop} {t : Tr} {v : D} {n : En}
/-- the pool -/
structure isPl (S : Sto) (l : Px) : Prop where
  pool : isPool S l
  le : l.q ≤ S.length
theorem isPl.ext (h : isPl S l) (e : Ext S S') : isPl S' l := ⟨h.1.ext e, Nat.le_trans h.2 e.le⟩
theorem isPl.lt (h : isPl S l) : l.l < S.length ∧ l.q ≤ S.length := ⟨let ⟨_, _, _, e⟩ := h.1; get_lt e, h.2⟩
theorem below_okP (U : Us C) {m : Nat} (hl : isPl S l) (h1 : 1 ≤ m) (h2 : m ≤ 1000000) : Wp (C (d + 1) 92 [.loc l, .int m] S) (fun r S' => Mod l S S' ∧ isPl S' l ∧ ∃ k : Nat, r = .int k ∧ k < m) X :=
  (below_ok U hl.1 h1 h2).q fun r S' ⟨a, b, c⟩ => ⟨a, ⟨b, Nat.le_trans hl.2 a.1⟩, c⟩
theorem one_tupP (U : Us C) {xs : List D} (hl : isPl S l) (h1 : xs ≠ []) (h2 : xs.length ≤ 1000000) : Wp (C (d + 1 + 1) 335 [.loc l, .tup xs] S) (fun r S' => Mod l S S' ∧ isPl S' l ∧ ∃ i : Nat, xs[i]? = some r) X :=
  (one_tup U hl.1 h1 h2).q fun r S' ⟨a, b, c⟩ => ⟨a, ⟨b, Nat.le_trans hl.2 a.1⟩, c⟩
theorem one_lstP (U : Us C) {k : Nat} {xs : List D} (hl : isPl S l) (hk : S[k]? = some (.lst xs)) (hkl : l.ok k) (h1 : xs ≠ []) (h2 : xs.length ≤ 1000000) : Wp (C (d + 1 + 1) 335 [.loc l, .loc k] S) (fun r S' => Mod l S S' ∧ isPl S' l ∧ ∃ i : Nat, xs[i]? = some r) X :=
  (one_lst U hl.1 hk hkl.ne h1 h2).q fun r S' ⟨a, b, c⟩ => ⟨a, ⟨b, Nat.le_trans hl.2 a.1⟩, c⟩
theorem isPl.set {k : Nat} {o : O} (h : isPl S l) (hk : k ≠ l.l) : isPl (S.set k o) l := ⟨let ⟨a, b, c, e⟩ := h.1; ⟨a, b, c, get_ne e hk⟩, by rw [List.length_set]; exact h.2⟩
/-! ### things as they are made -/
/-- a thing of at most m steps -/
def Thg (l : Px) (m : Nat) (S : Sto) (v : D) : Prop := ∃ t : Tr, t.dep ≤ m ∧ Tt l S t v
theorem Thg.mono {k : Nat} (h : Thg l m S v) (a : Mz l S S') (hm : m ≤ k) : Thg l k S' v := let ⟨t, h1, h2⟩ := h; ⟨t, by omega, h2.mono a⟩
theorem thg_int (i : Int) : Thg l (m + 1) S (.int i) := ⟨.int i, by show 1 ≤ _; omega, .int i⟩
theorem thg_bl (i : Bool) : Thg l (m + 1) S (.bl i) := ⟨.bl i, by show 1 ≤ _; omega, .bl i⟩
theorem thg_non : Thg l (m + 1) S .non := ⟨.non, by show 1 ≤ _; omega, .non⟩
theorem thg_str {x : Str} (h : PyData.strOk x = true) : Thg l (m + 1) S (.str x) := ⟨.str x, by show 1 ≤ _; omega, .str h⟩
theorem thgs {ds : List D} (h : ∀ x ∈ ds, Thg l m S x) : ∃ ts : List Tr, Tr.deps ts ≤ m ∧ Tts l S ts ds := by
  induction ds with
  | nil => exact ⟨[], Nat.zero_le _, .nil⟩
  | cons x ds ih =>
    obtain ⟨ts, h1, h2⟩ := ih fun y hy => h y (List.mem_cons_of_mem _ hy)
    obtain ⟨t, h3, h4⟩ := h x List.mem_cons_self
    exact ⟨t :: ts, by show max _ _ ≤ _; omega, .cons h4 h2⟩
theorem thg_tup {ds : List D} (hl : ds.length ≤ 1000) (h : ∀ x ∈ ds, Thg l m S x) : Thg l (m + 1) S (.tup ds) := by
  obtain ⟨ts, h1, h2⟩ := thgs h
  exact ⟨.tup ts, by show _ + 1 ≤ _; omega, .tup hl h2⟩
theorem thg_lst {ds : List D} {k : Nat} (hl : ds.length ≤ 1000) (hk : l.ok k) (e : S[k]? = some (.lst ds)) (h : ∀ x ∈ ds, Thg l m S x) : Thg l (m + 1) S (.loc k) := by
  obtain ⟨ts, h1, h2⟩ := thgs h
  exact ⟨.lst ts, by show _ + 1 ≤ _; omega, .lst hl hk e h2⟩
/-- what an expression makes -/
def Gx (l : Px) (n : En) (G : Sto → D → Prop) (f : E D) : Prop := ∀ S X, isPl S l → Wp (f n S) (fun v S' => Mz l S S' ∧ isPl S' l ∧ G S' v) X
theorem Gx.imp {G G' : Sto → D → Prop} {f : E D} (h : Gx l n G f) (q : ∀ S v, G S v → G' S v) : Gx l n G' f := fun S X hp => (h S X hp).q fun v S' ⟨a, b, c⟩ => ⟨a, b, q _ _ c⟩
theorem gx_val {G : Sto → D → Prop} {f : E D} {v : D} (hf : ∀ (S : Sto) (X : PX) (Q : D → Sto → Prop), Q v S → Wp (f n S) Q X) (hv : ∀ S, G S v) : Gx l n G f := fun S X hp => hf S X _ ⟨Mz.rfl', hp, hv S⟩
theorem gx_all {G : Sto → D → Prop} (hG : ∀ S S' v, Mz l S S' → G S v → G S' v) : ∀ {fs : List (E D)}, (∀ f ∈ fs, Gx l n G f) → ∀ (S : Sto) (X : PX), isPl S l →
    Wp (eAll fs n S) (fun ds S' => Mz l S S' ∧ isPl S' l ∧ ds.length = fs.length ∧ (∀ v ∈ ds, G S' v) ∧ (eCst .non ∈ fs → D.non ∈ ds)) X
  | [], _, S, X, hp => ⟨Mz.rfl', hp, rfl, (fun v hv => nomatch hv), (fun z => nomatch z)⟩
  | f :: fs, h, S, X, hp => by
    rw [wp_all]
    have key : ∀ (v : D) (S1 : Sto), Mz l S S1 → isPl S1 l → G S1 v → (f = eCst .non → v = .non) → Wp (eAll fs n S1) (fun ds S2 => Mz l S S2 ∧ isPl S2 l ∧ (v :: ds).length = (f :: fs).length ∧ (∀ u ∈ v :: ds, G S2 u) ∧ (eCst .non ∈ f :: fs → D.non ∈ v :: ds)) X := by
      intro v S1 hM hp1 hv hn
      refine (gx_all hG (fun g hg => h g (List.mem_cons_of_mem _ hg)) S1 X hp1).q ?_
      rintro ds S2 ⟨hM2, hp2, hlen, hds, hnn⟩
      refine ⟨hM.trans hM2, hp2, by simp [hlen], fun u hu => ?_, fun z => ?_⟩
      · rcases List.mem_cons.mp hu with rfl | hu
        · exact hG _ _ _ hM2 hv
        · exact hds u hu
      · rcases List.mem_cons.mp z with z | z
        · rw [hn z.symm]; exact List.mem_cons_self
        · exact List.mem_cons_of_mem _ (hnn z)
    by_cases hf : f = eCst .non
    · subst hf
      have h0 : Mz l S S ∧ isPl S l ∧ G S .non := h _ List.mem_cons_self S X hp
      exact key .non S h0.1 h0.2.1 h0.2.2 fun _ => rfl
    · refine (h f List.mem_cons_self S X hp).q ?_
      rintro v S1 ⟨a, b, c⟩
      exact key v S1 a b c fun z => absurd z hf
abbrev GT (l : Px) (m : Nat) : Sto → D → Prop := fun S v => Thg l m S v
theorem gt_mono : ∀ S S' v, Mz l S S' → GT l m S v → GT l m S' v := fun S S' v a h => h.mono a (Nat.le_refl _)
theorem gx_tup {fs : List (E D)} (h : ∀ f ∈ fs, Gx l n (GT l m) f) (hl : fs.length ≤ 1000) : Gx l n (GT l (m + 1)) (eOpN mkTup fs) := fun S X hp => by
  rw [wp_opN]
  refine (gx_all gt_mono h S X hp).q ?_
  rintro ds S1 ⟨a, b, c, e, _⟩
  rw [wp_mkTup]
  exact ⟨line_le (by omega), a, b, thg_tup (by omega) e⟩
theorem isPl.new {o : O} (h : isPl S l) : l.ok S.length := ⟨by have := h.lt; omega, h.2⟩
theorem gx_lst {fs : List (E D)} (h : ∀ f ∈ fs, Gx l n (GT l m) f) (hl : fs.length ≤ 1000) : Gx l n (GT l (m + 1)) (eOpN mkLst fs) := fun S X hp => by
  rw [wp_opN]
  refine (gx_all gt_mono h S X hp).q ?_
  rintro ds S1 ⟨a, b, c, e, _⟩
  rw [wp_mkLst]
  refine ⟨line_le (by omega), a.app, b.ext Ext.rfl'.app, thg_lst (by omega) (isPl.new (o := .lst []) b) get_new fun x hx => (e x hx).mono (Mz.of_ext Ext.rfl'.app) (Nat.le_refl _)⟩
theorem gx_dct : Gx l n (GT l (m + 1)) eDct := fun S X hp => by
  rw [wp_eDct]
  exact ⟨Mz.rfl'.app, hp.ext Ext.rfl'.app, .dct [], by show 0 + 1 ≤ _; omega, .dct (by simp) (by simp) (fun x hx => nomatch hx) (isPl.new (o := .lst []) hp) (.inl get_new) .nil⟩
theorem gx_dct1 {k : Str} {i : Int} : Gx l n (GT l (m + 2)) (eDct1 k i) := fun S X hp => by
  rw [wp_eDct1]
  refine ⟨Mz.rfl'.app, hp.ext Ext.rfl'.app, .dct [(.inr k, .int i)], by show max 1 0 + 1 ≤ _; omega, .dct (by simp) (by simp) (fun x hx => ?_) (isPl.new (o := .lst []) hp) (.inl get_new) (.cons (.int i) .nil)⟩
  have : x = (.inr k, .int i) := by simpa using hx
  rw [this]; rfl
theorem gx_le {f : E D} {k : Nat} (h : Gx l n (GT l m) f) (hk : m ≤ k) : Gx l n (GT l k) f := h.imp fun S v z => z.mono Mz.rfl' hk
theorem gx_int {i : Int} : Gx l n (GT l (m + 1)) (eCst (.int i)) := gx_val (fun S X Q q => q) fun S => thg_int i
theorem gx_bl {i : Bool} : Gx l n (GT l (m + 1)) (eCst (.bl i)) := gx_val (fun S X Q q => q) fun S => thg_bl i
theorem gx_non : Gx l n (GT l (m + 1)) (eCst .non) := gx_val (fun S X Q q => q) fun S => thg_non
theorem gx_str {x : Str} (h : PyData.strOk x = true) : Gx l n (GT l (m + 1)) (eCst (.str x)) := gx_val (fun S X Q q => q) fun S => thg_str h
theorem gx_neg {i : Int} : Gx l n (GT l (m + 1)) (eOp1 negD (eCst (.int i))) := gx_val (v := .int (-i)) (fun S X Q q => by simpa using q) fun S => thg_int _
theorem gx_pow : Gx l n (GT l (m + 1)) (eOp2 powD (eCst (.int 10)) (eCst (.int 29))) := gx_val (v := .int (10 ^ 29)) (fun S X Q q => by simp; exact q) fun S => thg_int _
theorem gx_npow : Gx l n (GT l (m + 1)) (eOp1 negD (eOp2 powD (eCst (.int 10)) (eCst (.int 29)))) := gx_val (v := .int (-(10 ^ 29))) (fun S X Q q => by simp; exact q) fun S => thg_int _
theorem gx_var {i : Nat} {v : D} (e : n[i]? = some (some v)) (h : ∀ S, Thg l m S v) : Gx l n (GT l m) (eVar i) := gx_val (v := v) (fun S X Q q => by simp [e]; exact q) h
theorem all_nil {A : Type} {P : A → Prop} : ∀ f ∈ ([] : List A), P f := fun f h => nomatch h
theorem all_cons {A : Type} {P : A → Prop} {a : A} {l : List A} (h1 : P a) (h2 : ∀ f ∈ l, P f) : ∀ f ∈ a :: l, P f := fun f h => by
  rcases List.mem_cons.mp h with rfl | h
  · exact h1
  · exact h2 f h
/-- a thing of another kind -/
theorem thing_ok (U : Us C) (hp : isPl S l) : Wp (C (d + 1 + 1 + 1) 439 [.loc l] S) (fun v S' => Mz l S S' ∧ isPl S' l ∧ Thg l 6 S' v) X := by
  rw [U.u__law_thing]
  simp only [wp_runD, F__law_thing]
  refine ⟨rfl, ?_⟩
  simp only [wp_sSeq, wp_sRet, wp_call, wp_all]
  simp only [wp_var, wp_all0]
  show Wp (eOpN mkTup _ _ S) _ _
  rw [wp_opN]
  refine Wp.q (gx_all (G := GT l 6) (l := l) gt_mono ?_ S _ hp) ?_
  · refine all_cons gx_non (all_cons gx_bl (all_cons gx_bl (all_cons gx_neg (all_cons (gx_str (by decide +kernel)) (all_cons (gx_str (by decide +kernel)) (all_cons (gx_str (by decide +kernel)) (all_cons (gx_lst all_nil (by simp)) (all_cons (gx_lst (all_cons gx_int all_nil) (by simp)) ?_))))))))
    refine all_cons gx_dct (all_cons gx_dct1 (all_cons (gx_tup (all_cons gx_non all_nil) (by simp)) ?_))
    refine all_cons (gx_tup (all_cons (gx_tup (all_cons (gx_tup (all_cons (gx_tup (all_cons gx_int all_nil) (by simp)) all_nil) (by simp)) all_nil) (by simp)) all_nil) (by simp)) ?_
    refine all_cons (gx_tup (all_cons gx_bl all_nil) (by simp)) (all_cons gx_int ?_)
    refine all_cons (gx_lst (all_cons (gx_tup (all_cons gx_int (all_cons gx_int all_nil)) (by simp)) all_nil) (by simp)) (all_cons gx_pow (all_cons gx_neg ?_))
    refine all_cons (gx_tup (all_cons (gx_tup all_nil (by simp)) all_nil) (by simp)) (all_cons (gx_tup (all_cons (gx_str (by decide +kernel)) all_nil) (by simp)) ?_)
    refine all_cons (gx_tup (all_cons gx_int (all_cons gx_int (all_cons gx_int (all_cons gx_int all_nil)))) (by simp)) (all_cons (gx_tup (all_cons gx_int (all_cons gx_int all_nil)) (by simp)) ?_)
    refine all_cons (gx_tup (all_cons (gx_tup (all_cons gx_int (all_cons gx_int all_nil)) (by simp)) all_nil) (by simp)) (all_cons (gx_tup (all_cons (gx_tup (all_cons gx_int (all_cons gx_int all_nil)) (by simp)) all_nil) (by simp)) ?_)
    exact all_cons (gx_str (by decide +kernel)) (all_cons (gx_lst (all_cons (gx_lst (all_cons (gx_tup (all_cons gx_int (all_cons gx_int all_nil)) (by simp)) all_nil) (by simp)) all_nil) (by simp)) all_nil)
  · rintro ds S1 ⟨hM, hp1, hlen, hds, _⟩
    simp only [List.length_cons, List.length_nil] at hlen
    simp only [wp_mkTup]
    refine ⟨line_le (by omega), ?_⟩
    refine (one_tupP U (d := d) hp1 (fun z => by rw [z] at hlen; simp at hlen) (by omega)).q ?_
    rintro v S2 ⟨hM2, hp2, i, hi⟩
    simp
    exact ⟨hM.trans (.of_mod hM2), hp2, (hds v (List.mem_of_getElem? hi)).mono (.of_mod hM2) (Nat.le_refl _)⟩
end
end K00

set_option Elab.async false
set_option linter.all false
set_option maxRecDepth 100000
set_option maxHeartbeats 4000000
noncomputable section
namespace K00
open PySem PySem.Spec PyProof.Rows L2 Jm
/-! the classes of errors, by their places -/
def clsL : List Nat := [100057, 100045, 100025, 100033, 100017, 100077, 100061, 100021, 100041, 100053, 100037, 100097, 100066, 100050, 100086, 100030, 100082, 100070, 100014, 100074, 100003, 100120, 100092, 100100, 100088]
def clA (k : Nat) : Nat := clsL.getD k 0
theorem cl_mem : ∀ k, k < 25 → clA k ∈ md.cl := by decide +kernel
theorem sub_all : ∀ k, k < 25 → ∀ j, j < 25 → md.sub.lookup (clA k, clA j) = some (k == j || j == 24) := by decide +kernel
theorem fld_all : ∀ k, k < 21 → fldName (clA k) = (if k < 12 then "given" else if k < 20 then "index" else "reason" : Str) := by decide +kernel
section
variable {C : Nat → CF} {d : Nat} {S : Sto} {X : PX} {QD : D → Sto → Prop}
theorem inst_q {k j : Nat} (hk : k < 25) (hj : j < 25) (fs : List D) (S : Sto) : instC md.sub md.cl [.exv (clA k) fs, .fn (clA j)] S = some (.bl (k == j || j == 24), S) := by
  show (if clA k ∈ md.cl then (md.sub.lookup (clA k, clA j)).map (fun b => (D.bl b, S)) else none) = _
  rw [if_pos (cl_mem k hk), sub_all k hk j hj]; rfl
theorem inst_x {k j : Nat} (hk : k < 25) (hj : j < 25) (fs : List D) (S : Sto) : instC md.sub md.cl [.exc (clA k) fs, .fn (clA j)] S = some (.bl (k == j || j == 24), S) := by
  show (if clA k ∈ md.cl then (md.sub.lookup (clA k, clA j)).map (fun b => (D.bl b, S)) else none) = _
  rw [if_pos (cl_mem k hk), sub_all k hk j hj]; rfl
theorem inst_v {k : Nat} (hk : k < 25) (fs : List D) (S : Sto) : instC md.sub md.cl [.exv (clA k) fs, .ty .xVal] S = some (.bl true, S) := by
  show (if clA k ∈ md.cl then (some true).map (fun b => (D.bl b, S)) else none) = _
  rw [if_pos (cl_mem k hk)]; rfl
theorem inst_t {k : Nat} (hk : k < 25) (fs : List D) (S : Sto) : instC md.sub md.cl [.exv (clA k) fs, .tup [.ty .xKey, .ty .xIdx, .ty .xTyp]] S = some (.bl false, S) := by
  show (if clA k ∈ md.cl then (some false).map (fun b => (D.bl b, S)) else none) = _
  rw [if_pos (cl_mem k hk)]; rfl
theorem made_ok (U : Us C) {k : Nat} (hk : k < 25) {v : D} {b : Bool} (h : QD (.exv (clA k) (if k < 21 then [v] else [])) S) : Wp (C (d + 1 + 1) 282 [.int (k : Nat), v, .bl b] S) QD X := by
  match k, hk with
  | 0, _ => rw [U.u__law_made]; simp only [wp_runD, F__law_made]; refine ⟨rfl, ?_⟩; cases b <;> simp <;> exact h
  | 1, _ => rw [U.u__law_made]; simp only [wp_runD, F__law_made]; refine ⟨rfl, ?_⟩; cases b <;> simp <;> exact h
  | 2, _ => rw [U.u__law_made]; simp only [wp_runD, F__law_made]; refine ⟨rfl, ?_⟩; cases b <;> simp <;> exact h
  | 3, _ => rw [U.u__law_made]; simp only [wp_runD, F__law_made]; refine ⟨rfl, ?_⟩; cases b <;> simp <;> exact h
  | 4, _ => rw [U.u__law_made]; simp only [wp_runD, F__law_made]; refine ⟨rfl, ?_⟩; cases b <;> simp <;> exact h
  | 5, _ => rw [U.u__law_made]; simp only [wp_runD, F__law_made]; refine ⟨rfl, ?_⟩; cases b <;> simp <;> exact h
  | 6, _ => rw [U.u__law_made]; simp only [wp_runD, F__law_made]; refine ⟨rfl, ?_⟩; cases b <;> simp <;> exact h
  | 7, _ => rw [U.u__law_made]; simp only [wp_runD, F__law_made]; refine ⟨rfl, ?_⟩; cases b <;> simp <;> exact h
  | 8, _ => rw [U.u__law_made]; simp only [wp_runD, F__law_made]; refine ⟨rfl, ?_⟩; cases b <;> simp <;> exact h
  | 9, _ => rw [U.u__law_made]; simp only [wp_runD, F__law_made]; refine ⟨rfl, ?_⟩; cases b <;> simp <;> exact h
  | 10, _ => rw [U.u__law_made]; simp only [wp_runD, F__law_made]; refine ⟨rfl, ?_⟩; cases b <;> simp <;> exact h
  | 11, _ => rw [U.u__law_made]; simp only [wp_runD, F__law_made]; refine ⟨rfl, ?_⟩; cases b <;> simp <;> exact h
  | 12, _ => rw [U.u__law_made]; simp only [wp_runD, F__law_made]; refine ⟨rfl, ?_⟩; simp; rw [U.u__law_made_others]; simp only [wp_runD, F__law_made_others]; refine ⟨rfl, ?_⟩; cases b <;> simp <;> exact h
  | 13, _ => rw [U.u__law_made]; simp only [wp_runD, F__law_made]; refine ⟨rfl, ?_⟩; simp; rw [U.u__law_made_others]; simp only [wp_runD, F__law_made_others]; refine ⟨rfl, ?_⟩; cases b <;> simp <;> exact h
  | 14, _ => rw [U.u__law_made]; simp only [wp_runD, F__law_made]; refine ⟨rfl, ?_⟩; simp; rw [U.u__law_made_others]; simp only [wp_runD, F__law_made_others]; refine ⟨rfl, ?_⟩; cases b <;> simp <;> exact h
  | 15, _ => rw [U.u__law_made]; simp only [wp_runD, F__law_made]; refine ⟨rfl, ?_⟩; simp; rw [U.u__law_made_others]; simp only [wp_runD, F__law_made_others]; refine ⟨rfl, ?_⟩; cases b <;> simp <;> exact h
  | 16, _ => rw [U.u__law_made]; simp only [wp_runD, F__law_made]; refine ⟨rfl, ?_⟩; simp; rw [U.u__law_made_others]; simp only [wp_runD, F__law_made_others]; refine ⟨rfl, ?_⟩; cases b <;> simp <;> exact h
  | 17, _ => rw [U.u__law_made]; simp only [wp_runD, F__law_made]; refine ⟨rfl, ?_⟩; simp; rw [U.u__law_made_others]; simp only [wp_runD, F__law_made_others]; refine ⟨rfl, ?_⟩; cases b <;> simp <;> exact h
  | 18, _ => rw [U.u__law_made]; simp only [wp_runD, F__law_made]; refine ⟨rfl, ?_⟩; simp; rw [U.u__law_made_others]; simp only [wp_runD, F__law_made_others]; refine ⟨rfl, ?_⟩; cases b <;> simp <;> exact h
  | 19, _ => rw [U.u__law_made]; simp only [wp_runD, F__law_made]; refine ⟨rfl, ?_⟩; simp; rw [U.u__law_made_others]; simp only [wp_runD, F__law_made_others]; refine ⟨rfl, ?_⟩; cases b <;> simp <;> exact h
  | 20, _ => rw [U.u__law_made]; simp only [wp_runD, F__law_made]; refine ⟨rfl, ?_⟩; simp; rw [U.u__law_made_others]; simp only [wp_runD, F__law_made_others]; refine ⟨rfl, ?_⟩; cases b <;> simp <;> exact h
  | 21, _ => rw [U.u__law_made]; simp only [wp_runD, F__law_made]; refine ⟨rfl, ?_⟩; simp; rw [U.u__law_made_others]; simp only [wp_runD, F__law_made_others]; refine ⟨rfl, ?_⟩; cases b <;> simp <;> exact h
  | 22, _ => rw [U.u__law_made]; simp only [wp_runD, F__law_made]; refine ⟨rfl, ?_⟩; simp; rw [U.u__law_made_others]; simp only [wp_runD, F__law_made_others]; refine ⟨rfl, ?_⟩; cases b <;> simp <;> exact h
  | 23, _ => rw [U.u__law_made]; simp only [wp_runD, F__law_made]; refine ⟨rfl, ?_⟩; simp; rw [U.u__law_made_others]; simp only [wp_runD, F__law_made_others]; refine ⟨rfl, ?_⟩; cases b <;> simp <;> exact h
  | 24, _ => rw [U.u__law_made]; simp only [wp_runD, F__law_made]; refine ⟨rfl, ?_⟩; simp; rw [U.u__law_made_others]; simp only [wp_runD, F__law_made_others]; refine ⟨rfl, ?_⟩; cases b <;> simp <;> exact h
  | k + 25, h => omega
end
end K00

set_option Elab.async false
set_option linter.all false
set_option maxRecDepth 100000
set_option maxHeartbeats 4000000
noncomputable section
namespace K00
open PySem PySem.Spec PyProof.Rows L2 Jm
section
variable {C : Nat → CF} {d : Nat} {S : Sto} {X : PX} {QD : D → Sto → Prop}
def mrk (k : Nat) : List D := (List.range 24).map fun j => D.bl (k == j)
theorem marks_ok (U : Us C) {k : Nat} (hk : k < 25) (fs : List D) : Wp (C (d + 1) 289 [.exv (clA k) fs] S) (fun r S' => Ext S S' ∧ ∃ q, r = .loc q ∧ S.length ≤ q ∧ S'[q]? = some (.lst (mrk k))) X := by
  rw [U.u__law_marks]
  simp only [wp_runD, F__law_marks]
  refine ⟨rfl, ?_⟩
  have i0 : ∀ S, instC md.sub md.cl [.exv (clA k) fs, .fn 100057] S = some (.bl (k == 0), S) := fun S => by have := inst_q hk (j := 0) (by decide) fs S; rw [show (k == 0 || 0 == 24) = (k == 0) by simp] at this; exact this
  have i1 : ∀ S, instC md.sub md.cl [.exv (clA k) fs, .fn 100045] S = some (.bl (k == 1), S) := fun S => by have := inst_q hk (j := 1) (by decide) fs S; rw [show (k == 1 || 1 == 24) = (k == 1) by simp] at this; exact this
  have i2 : ∀ S, instC md.sub md.cl [.exv (clA k) fs, .fn 100025] S = some (.bl (k == 2), S) := fun S => by have := inst_q hk (j := 2) (by decide) fs S; rw [show (k == 2 || 2 == 24) = (k == 2) by simp] at this; exact this
  have i3 : ∀ S, instC md.sub md.cl [.exv (clA k) fs, .fn 100033] S = some (.bl (k == 3), S) := fun S => by have := inst_q hk (j := 3) (by decide) fs S; rw [show (k == 3 || 3 == 24) = (k == 3) by simp] at this; exact this
  have i4 : ∀ S, instC md.sub md.cl [.exv (clA k) fs, .fn 100017] S = some (.bl (k == 4), S) := fun S => by have := inst_q hk (j := 4) (by decide) fs S; rw [show (k == 4 || 4 == 24) = (k == 4) by simp] at this; exact this
  have i5 : ∀ S, instC md.sub md.cl [.exv (clA k) fs, .fn 100077] S = some (.bl (k == 5), S) := fun S => by have := inst_q hk (j := 5) (by decide) fs S; rw [show (k == 5 || 5 == 24) = (k == 5) by simp] at this; exact this
  have i6 : ∀ S, instC md.sub md.cl [.exv (clA k) fs, .fn 100061] S = some (.bl (k == 6), S) := fun S => by have := inst_q hk (j := 6) (by decide) fs S; rw [show (k == 6 || 6 == 24) = (k == 6) by simp] at this; exact this
  have i7 : ∀ S, instC md.sub md.cl [.exv (clA k) fs, .fn 100021] S = some (.bl (k == 7), S) := fun S => by have := inst_q hk (j := 7) (by decide) fs S; rw [show (k == 7 || 7 == 24) = (k == 7) by simp] at this; exact this
  have i8 : ∀ S, instC md.sub md.cl [.exv (clA k) fs, .fn 100041] S = some (.bl (k == 8), S) := fun S => by have := inst_q hk (j := 8) (by decide) fs S; rw [show (k == 8 || 8 == 24) = (k == 8) by simp] at this; exact this
  have i9 : ∀ S, instC md.sub md.cl [.exv (clA k) fs, .fn 100053] S = some (.bl (k == 9), S) := fun S => by have := inst_q hk (j := 9) (by decide) fs S; rw [show (k == 9 || 9 == 24) = (k == 9) by simp] at this; exact this
  have i10 : ∀ S, instC md.sub md.cl [.exv (clA k) fs, .fn 100037] S = some (.bl (k == 10), S) := fun S => by have := inst_q hk (j := 10) (by decide) fs S; rw [show (k == 10 || 10 == 24) = (k == 10) by simp] at this; exact this
  have i11 : ∀ S, instC md.sub md.cl [.exv (clA k) fs, .fn 100097] S = some (.bl (k == 11), S) := fun S => by have := inst_q hk (j := 11) (by decide) fs S; rw [show (k == 11 || 11 == 24) = (k == 11) by simp] at this; exact this
  have i12 : ∀ S, instC md.sub md.cl [.exv (clA k) fs, .fn 100066] S = some (.bl (k == 12), S) := fun S => by have := inst_q hk (j := 12) (by decide) fs S; rw [show (k == 12 || 12 == 24) = (k == 12) by simp] at this; exact this
  have i13 : ∀ S, instC md.sub md.cl [.exv (clA k) fs, .fn 100050] S = some (.bl (k == 13), S) := fun S => by have := inst_q hk (j := 13) (by decide) fs S; rw [show (k == 13 || 13 == 24) = (k == 13) by simp] at this; exact this
  have i14 : ∀ S, instC md.sub md.cl [.exv (clA k) fs, .fn 100086] S = some (.bl (k == 14), S) := fun S => by have := inst_q hk (j := 14) (by decide) fs S; rw [show (k == 14 || 14 == 24) = (k == 14) by simp] at this; exact this
  have i15 : ∀ S, instC md.sub md.cl [.exv (clA k) fs, .fn 100030] S = some (.bl (k == 15), S) := fun S => by have := inst_q hk (j := 15) (by decide) fs S; rw [show (k == 15 || 15 == 24) = (k == 15) by simp] at this; exact this
  have i16 : ∀ S, instC md.sub md.cl [.exv (clA k) fs, .fn 100082] S = some (.bl (k == 16), S) := fun S => by have := inst_q hk (j := 16) (by decide) fs S; rw [show (k == 16 || 16 == 24) = (k == 16) by simp] at this; exact this
  have i17 : ∀ S, instC md.sub md.cl [.exv (clA k) fs, .fn 100070] S = some (.bl (k == 17), S) := fun S => by have := inst_q hk (j := 17) (by decide) fs S; rw [show (k == 17 || 17 == 24) = (k == 17) by simp] at this; exact this
  have i18 : ∀ S, instC md.sub md.cl [.exv (clA k) fs, .fn 100014] S = some (.bl (k == 18), S) := fun S => by have := inst_q hk (j := 18) (by decide) fs S; rw [show (k == 18 || 18 == 24) = (k == 18) by simp] at this; exact this
  have i19 : ∀ S, instC md.sub md.cl [.exv (clA k) fs, .fn 100074] S = some (.bl (k == 19), S) := fun S => by have := inst_q hk (j := 19) (by decide) fs S; rw [show (k == 19 || 19 == 24) = (k == 19) by simp] at this; exact this
  have i20 : ∀ S, instC md.sub md.cl [.exv (clA k) fs, .fn 100003] S = some (.bl (k == 20), S) := fun S => by have := inst_q hk (j := 20) (by decide) fs S; rw [show (k == 20 || 20 == 24) = (k == 20) by simp] at this; exact this
  have i21 : ∀ S, instC md.sub md.cl [.exv (clA k) fs, .fn 100120] S = some (.bl (k == 21), S) := fun S => by have := inst_q hk (j := 21) (by decide) fs S; rw [show (k == 21 || 21 == 24) = (k == 21) by simp] at this; exact this
  have i22 : ∀ S, instC md.sub md.cl [.exv (clA k) fs, .fn 100092] S = some (.bl (k == 22), S) := fun S => by have := inst_q hk (j := 22) (by decide) fs S; rw [show (k == 22 || 22 == 24) = (k == 22) by simp] at this; exact this
  have i23 : ∀ S, instC md.sub md.cl [.exv (clA k) fs, .fn 100100] S = some (.bl (k == 23), S) := fun S => by have := inst_q hk (j := 23) (by decide) fs S; rw [show (k == 23 || 23 == 24) = (k == 23) by simp] at this; exact this
  refine wp_sq fun K hK => ?_
  simp [i0, i1, i2, i3, i4, i5, i6, i7, i8, i9, i10, i11, i12, i13, i14, i15, i16, i17, i18, i19, i20, i21, i22, i23]
  rw [hK, then_nx]
  clear hK K
  have hE : Ext S (S ++ [O.lst [D.bl (k == 0), D.bl (k == 1), D.bl (k == 2), D.bl (k == 3)]]) := List.prefix_append ..
  have l1 : (S ++ [O.lst [D.bl (k == 0), D.bl (k == 1), D.bl (k == 2), D.bl (k == 3)]])[S.length]? = some (.lst [D.bl (k == 0), D.bl (k == 1), D.bl (k == 2), D.bl (k == 3)]) := get_new
  generalize S ++ [O.lst [D.bl (k == 0), D.bl (k == 1), D.bl (k == 2), D.bl (k == 3)]] = S1 at hE l1 ⊢
  obtain ⟨q1, eq1⟩ : ∃ q, q = S.length := ⟨_, rfl⟩
  rw [← eq1] at l1 ⊢
  have hq : S.length ≤ q1 := by omega
  have a1 : addD (.loc q1) (.loc S1.length) (S1 ++ [O.lst [D.bl (k == 4), D.bl (k == 5), D.bl (k == 6), D.bl (k == 7)]]) = mkLst [D.bl (k == 0), D.bl (k == 1), D.bl (k == 2), D.bl (k == 3), D.bl (k == 4), D.bl (k == 5), D.bl (k == 6), D.bl (k == 7)] (S1 ++ [O.lst [D.bl (k == 4), D.bl (k == 5), D.bl (k == 6), D.bl (k == 7)]]) := add_lst (by rw [List.getElem?_append_left (get_lt l1)]; exact l1) get_new
  refine wp_sq fun K hK => ?_
  simp [i0, i1, i2, i3, i4, i5, i6, i7, i8, i9, i10, i11, i12, i13, i14, i15, i16, i17, i18, i19, i20, i21, i22, i23, a1]
  rw [hK, then_nx]
  clear hK K
  have hE2 : Ext S (S1 ++ [O.lst [D.bl (k == 4), D.bl (k == 5), D.bl (k == 6), D.bl (k == 7)], O.lst [D.bl (k == 0), D.bl (k == 1), D.bl (k == 2), D.bl (k == 3), D.bl (k == 4), D.bl (k == 5), D.bl (k == 6), D.bl (k == 7)]]) := hE.trans (List.prefix_append ..)
  have l2 : (S1 ++ [O.lst [D.bl (k == 4), D.bl (k == 5), D.bl (k == 6), D.bl (k == 7)], O.lst [D.bl (k == 0), D.bl (k == 1), D.bl (k == 2), D.bl (k == 3), D.bl (k == 4), D.bl (k == 5), D.bl (k == 6), D.bl (k == 7)]])[S1.length + 1]? = some (.lst [D.bl (k == 0), D.bl (k == 1), D.bl (k == 2), D.bl (k == 3), D.bl (k == 4), D.bl (k == 5), D.bl (k == 6), D.bl (k == 7)]) := by simp
  have hq2 : S.length ≤ S1.length + 1 := by have := hE.le; omega
  generalize S1 ++ [O.lst [D.bl (k == 4), D.bl (k == 5), D.bl (k == 6), D.bl (k == 7)], O.lst [D.bl (k == 0), D.bl (k == 1), D.bl (k == 2), D.bl (k == 3), D.bl (k == 4), D.bl (k == 5), D.bl (k == 6), D.bl (k == 7)]] = S2 at hE2 l2 ⊢
  obtain ⟨q2, eq2⟩ : ∃ q, q = S1.length + 1 := ⟨_, rfl⟩
  rw [← eq2] at l2 hq2 ⊢
  clear hE; have hE := hE2
  have a2 : addD (.loc q2) (.loc S2.length) (S2 ++ [O.lst [D.bl (k == 8), D.bl (k == 9), D.bl (k == 10), D.bl (k == 11)]]) = mkLst [D.bl (k == 0), D.bl (k == 1), D.bl (k == 2), D.bl (k == 3), D.bl (k == 4), D.bl (k == 5), D.bl (k == 6), D.bl (k == 7), D.bl (k == 8), D.bl (k == 9), D.bl (k == 10), D.bl (k == 11)] (S2 ++ [O.lst [D.bl (k == 8), D.bl (k == 9), D.bl (k == 10), D.bl (k == 11)]]) := add_lst (by rw [List.getElem?_append_left (get_lt l2)]; exact l2) get_new
  refine wp_sq fun K hK => ?_
  simp [i0, i1, i2, i3, i4, i5, i6, i7, i8, i9, i10, i11, i12, i13, i14, i15, i16, i17, i18, i19, i20, i21, i22, i23, a2]
  rw [hK, then_nx]
  clear hK K
  have hE3 : Ext S (S2 ++ [O.lst [D.bl (k == 8), D.bl (k == 9), D.bl (k == 10), D.bl (k == 11)], O.lst [D.bl (k == 0), D.bl (k == 1), D.bl (k == 2), D.bl (k == 3), D.bl (k == 4), D.bl (k == 5), D.bl (k == 6), D.bl (k == 7), D.bl (k == 8), D.bl (k == 9), D.bl (k == 10), D.bl (k == 11)]]) := hE.trans (List.prefix_append ..)
  have l3 : (S2 ++ [O.lst [D.bl (k == 8), D.bl (k == 9), D.bl (k == 10), D.bl (k == 11)], O.lst [D.bl (k == 0), D.bl (k == 1), D.bl (k == 2), D.bl (k == 3), D.bl (k == 4), D.bl (k == 5), D.bl (k == 6), D.bl (k == 7), D.bl (k == 8), D.bl (k == 9), D.bl (k == 10), D.bl (k == 11)]])[S2.length + 1]? = some (.lst [D.bl (k == 0), D.bl (k == 1), D.bl (k == 2), D.bl (k == 3), D.bl (k == 4), D.bl (k == 5), D.bl (k == 6), D.bl (k == 7), D.bl (k == 8), D.bl (k == 9), D.bl (k == 10), D.bl (k == 11)]) := by simp
  have hq3 : S.length ≤ S2.length + 1 := by have := hE.le; omega
  generalize S2 ++ [O.lst [D.bl (k == 8), D.bl (k == 9), D.bl (k == 10), D.bl (k == 11)], O.lst [D.bl (k == 0), D.bl (k == 1), D.bl (k == 2), D.bl (k == 3), D.bl (k == 4), D.bl (k == 5), D.bl (k == 6), D.bl (k == 7), D.bl (k == 8), D.bl (k == 9), D.bl (k == 10), D.bl (k == 11)]] = S3 at hE3 l3 ⊢
  obtain ⟨q3, eq3⟩ : ∃ q, q = S2.length + 1 := ⟨_, rfl⟩
  rw [← eq3] at l3 hq3 ⊢
  clear hE; have hE := hE3
  have a3 : addD (.loc q3) (.loc S3.length) (S3 ++ [O.lst [D.bl (k == 12), D.bl (k == 13), D.bl (k == 14), D.bl (k == 15)]]) = mkLst [D.bl (k == 0), D.bl (k == 1), D.bl (k == 2), D.bl (k == 3), D.bl (k == 4), D.bl (k == 5), D.bl (k == 6), D.bl (k == 7), D.bl (k == 8), D.bl (k == 9), D.bl (k == 10), D.bl (k == 11), D.bl (k == 12), D.bl (k == 13), D.bl (k == 14), D.bl (k == 15)] (S3 ++ [O.lst [D.bl (k == 12), D.bl (k == 13), D.bl (k == 14), D.bl (k == 15)]]) := add_lst (by rw [List.getElem?_append_left (get_lt l3)]; exact l3) get_new
  refine wp_sq fun K hK => ?_
  simp [i0, i1, i2, i3, i4, i5, i6, i7, i8, i9, i10, i11, i12, i13, i14, i15, i16, i17, i18, i19, i20, i21, i22, i23, a3]
  rw [hK, then_nx]
  clear hK K
  have hE4 : Ext S (S3 ++ [O.lst [D.bl (k == 12), D.bl (k == 13), D.bl (k == 14), D.bl (k == 15)], O.lst [D.bl (k == 0), D.bl (k == 1), D.bl (k == 2), D.bl (k == 3), D.bl (k == 4), D.bl (k == 5), D.bl (k == 6), D.bl (k == 7), D.bl (k == 8), D.bl (k == 9), D.bl (k == 10), D.bl (k == 11), D.bl (k == 12), D.bl (k == 13), D.bl (k == 14), D.bl (k == 15)]]) := hE.trans (List.prefix_append ..)
  have l4 : (S3 ++ [O.lst [D.bl (k == 12), D.bl (k == 13), D.bl (k == 14), D.bl (k == 15)], O.lst [D.bl (k == 0), D.bl (k == 1), D.bl (k == 2), D.bl (k == 3), D.bl (k == 4), D.bl (k == 5), D.bl (k == 6), D.bl (k == 7), D.bl (k == 8), D.bl (k == 9), D.bl (k == 10), D.bl (k == 11), D.bl (k == 12), D.bl (k == 13), D.bl (k == 14), D.bl (k == 15)]])[S3.length + 1]? = some (.lst [D.bl (k == 0), D.bl (k == 1), D.bl (k == 2), D.bl (k == 3), D.bl (k == 4), D.bl (k == 5), D.bl (k == 6), D.bl (k == 7), D.bl (k == 8), D.bl (k == 9), D.bl (k == 10), D.bl (k == 11), D.bl (k == 12), D.bl (k == 13), D.bl (k == 14), D.bl (k == 15)]) := by simp
  have hq4 : S.length ≤ S3.length + 1 := by have := hE.le; omega
  generalize S3 ++ [O.lst [D.bl (k == 12), D.bl (k == 13), D.bl (k == 14), D.bl (k == 15)], O.lst [D.bl (k == 0), D.bl (k == 1), D.bl (k == 2), D.bl (k == 3), D.bl (k == 4), D.bl (k == 5), D.bl (k == 6), D.bl (k == 7), D.bl (k == 8), D.bl (k == 9), D.bl (k == 10), D.bl (k == 11), D.bl (k == 12), D.bl (k == 13), D.bl (k == 14), D.bl (k == 15)]] = S4 at hE4 l4 ⊢
  obtain ⟨q4, eq4⟩ : ∃ q, q = S3.length + 1 := ⟨_, rfl⟩
  rw [← eq4] at l4 hq4 ⊢
  clear hE; have hE := hE4
  have a4 : addD (.loc q4) (.loc S4.length) (S4 ++ [O.lst [D.bl (k == 16), D.bl (k == 17), D.bl (k == 18), D.bl (k == 19)]]) = mkLst [D.bl (k == 0), D.bl (k == 1), D.bl (k == 2), D.bl (k == 3), D.bl (k == 4), D.bl (k == 5), D.bl (k == 6), D.bl (k == 7), D.bl (k == 8), D.bl (k == 9), D.bl (k == 10), D.bl (k == 11), D.bl (k == 12), D.bl (k == 13), D.bl (k == 14), D.bl (k == 15), D.bl (k == 16), D.bl (k == 17), D.bl (k == 18), D.bl (k == 19)] (S4 ++ [O.lst [D.bl (k == 16), D.bl (k == 17), D.bl (k == 18), D.bl (k == 19)]]) := add_lst (by rw [List.getElem?_append_left (get_lt l4)]; exact l4) get_new
  refine wp_sq fun K hK => ?_
  simp [i0, i1, i2, i3, i4, i5, i6, i7, i8, i9, i10, i11, i12, i13, i14, i15, i16, i17, i18, i19, i20, i21, i22, i23, a4]
  rw [hK, then_nx]
  clear hK K
  have hE5 : Ext S (S4 ++ [O.lst [D.bl (k == 16), D.bl (k == 17), D.bl (k == 18), D.bl (k == 19)], O.lst [D.bl (k == 0), D.bl (k == 1), D.bl (k == 2), D.bl (k == 3), D.bl (k == 4), D.bl (k == 5), D.bl (k == 6), D.bl (k == 7), D.bl (k == 8), D.bl (k == 9), D.bl (k == 10), D.bl (k == 11), D.bl (k == 12), D.bl (k == 13), D.bl (k == 14), D.bl (k == 15), D.bl (k == 16), D.bl (k == 17), D.bl (k == 18), D.bl (k == 19)]]) := hE.trans (List.prefix_append ..)
  have l5 : (S4 ++ [O.lst [D.bl (k == 16), D.bl (k == 17), D.bl (k == 18), D.bl (k == 19)], O.lst [D.bl (k == 0), D.bl (k == 1), D.bl (k == 2), D.bl (k == 3), D.bl (k == 4), D.bl (k == 5), D.bl (k == 6), D.bl (k == 7), D.bl (k == 8), D.bl (k == 9), D.bl (k == 10), D.bl (k == 11), D.bl (k == 12), D.bl (k == 13), D.bl (k == 14), D.bl (k == 15), D.bl (k == 16), D.bl (k == 17), D.bl (k == 18), D.bl (k == 19)]])[S4.length + 1]? = some (.lst [D.bl (k == 0), D.bl (k == 1), D.bl (k == 2), D.bl (k == 3), D.bl (k == 4), D.bl (k == 5), D.bl (k == 6), D.bl (k == 7), D.bl (k == 8), D.bl (k == 9), D.bl (k == 10), D.bl (k == 11), D.bl (k == 12), D.bl (k == 13), D.bl (k == 14), D.bl (k == 15), D.bl (k == 16), D.bl (k == 17), D.bl (k == 18), D.bl (k == 19)]) := by simp
  have hq5 : S.length ≤ S4.length + 1 := by have := hE.le; omega
  generalize S4 ++ [O.lst [D.bl (k == 16), D.bl (k == 17), D.bl (k == 18), D.bl (k == 19)], O.lst [D.bl (k == 0), D.bl (k == 1), D.bl (k == 2), D.bl (k == 3), D.bl (k == 4), D.bl (k == 5), D.bl (k == 6), D.bl (k == 7), D.bl (k == 8), D.bl (k == 9), D.bl (k == 10), D.bl (k == 11), D.bl (k == 12), D.bl (k == 13), D.bl (k == 14), D.bl (k == 15), D.bl (k == 16), D.bl (k == 17), D.bl (k == 18), D.bl (k == 19)]] = S5 at hE5 l5 ⊢
  obtain ⟨q5, eq5⟩ : ∃ q, q = S4.length + 1 := ⟨_, rfl⟩
  rw [← eq5] at l5 hq5 ⊢
  clear hE; have hE := hE5
  have a5 : addD (.loc q5) (.loc S5.length) (S5 ++ [O.lst [D.bl (k == 20), D.bl (k == 21), D.bl (k == 22), D.bl (k == 23)]]) = mkLst [D.bl (k == 0), D.bl (k == 1), D.bl (k == 2), D.bl (k == 3), D.bl (k == 4), D.bl (k == 5), D.bl (k == 6), D.bl (k == 7), D.bl (k == 8), D.bl (k == 9), D.bl (k == 10), D.bl (k == 11), D.bl (k == 12), D.bl (k == 13), D.bl (k == 14), D.bl (k == 15), D.bl (k == 16), D.bl (k == 17), D.bl (k == 18), D.bl (k == 19), D.bl (k == 20), D.bl (k == 21), D.bl (k == 22), D.bl (k == 23)] (S5 ++ [O.lst [D.bl (k == 20), D.bl (k == 21), D.bl (k == 22), D.bl (k == 23)]]) := add_lst (by rw [List.getElem?_append_left (get_lt l5)]; exact l5) get_new
  simp [i0, i1, i2, i3, i4, i5, i6, i7, i8, i9, i10, i11, i12, i13, i14, i15, i16, i17, i18, i19, i20, i21, i22, i23, a5]
  exact ⟨hE.trans (List.prefix_append ..), by have := hE.le; omega, rfl⟩
theorem py_b : Py D.bl PyData.bool 1 := fun S k a => rfl
theorem ev_b : Ev PyData.bool := fun a b => by cases a <;> cases b <;> rfl
theorem kept_ok (U : Us C) {k : Nat} (hk : k < 21) {v : D} (h : QD v S) : Wp (C (d + 1) 255 [.int (k : Nat), .exv (clA k) [v]] S) QD X := by
  have hm := cl_mem k (by omega)
  have hf := fld_all k hk
  rw [U.u__law_kept]
  simp only [wp_runD, F__law_kept]
  refine ⟨rfl, ?_⟩
  simp [hm, hf]
  exact ⟨fun h1 => ⟨fun h2 => absurd h1 (by omega), h⟩, fun h1 => ⟨fun h2 => ⟨by rw [if_neg (by omega), if_pos (by omega)], h⟩, fun h2 => ⟨fun h3 => ⟨by rw [if_neg (by omega), if_neg (by omega)], h⟩, fun h3 => by omega⟩⟩⟩
theorem great_ok (U : Us C) {l : Px} (hp : isPl S l) {m : Int} (hm : 0 < m) : Wp (C (d + 1 + 1) 183 [.loc l.l, .int m] S) (fun r S' => Mod l.l S S' ∧ isPl S' l ∧ ∃ i : Int, r = .int i) X := by
  rw [U.u__law_great]
  simp only [wp_runD, F__law_great]
  refine ⟨rfl, ?_⟩
  refine wp_sq fun K hK => ?_
  simp
  rw [hK, then_nx]
  clear hK K
  refine wp_sq fun K hK => ?_
  simp
  refine wp_rngL (fun i n S' => Mod l.l S S' ∧ isPl S' l ∧ ∃ (t : Int) (o : Option D), n = [some (.loc l.l), some (.int m), some (.int t), o]) ⟨Mod.rfl', hp, _, _, rfl⟩ (fuel_of (by omega)) ?_ ?_
  · rintro i n S1 T hT hi ⟨hM, hp1, t, o, rfl⟩
    simp
    refine ⟨by unfold mulOk; simp, ?_⟩
    refine (below_okP (d := d) U hp1 (m := 99991) (by omega) (by omega)).q ?_
    rintro r S2 ⟨hM2, hp2, k, rfl, hk⟩
    simp
    rw [hT, turn_nx]
    exact ⟨hM.trans hM2, hp2, _, _, rfl⟩
  · rintro n S1 ⟨hM, hp1, t, o, rfl⟩
    rw [hK, then_nx]
    simp
    exact ⟨hm, hM, hp1⟩
end
end K00

set_option Elab.async false
set_option linter.all false
set_option maxRecDepth 100000
set_option maxHeartbeats 4000000
noncomputable section
namespace K00
open PySem PySem.Spec PyProof.Rows L2 Jm
mutual
theorem tt_clean {p : Px} {S : Sto} : ∀ {t : Tr} {v : D}, Tt p S t v → Clean v
  | _, _, .non => .non
  | _, _, .bl b => .bl b
  | _, _, .int i => .int i
  | _, _, .str _ => .str _
  | _, _, .tup _ r => .tup (tts_clean r)
  | _, _, .lst _ _ _ _ => .loc _
  | _, _, .dct _ _ _ _ _ _ => .loc _
theorem tts_clean {p : Px} {S : Sto} : ∀ {ts : List Tr} {ds : List D}, Tts p S ts ds → ∀ x ∈ ds, Clean x
  | _, _, .nil => fun x hx => nomatch hx
  | _, _, .cons a r => fun x hx => by
    rcases List.mem_cons.mp hx with rfl | hx
    · exact tt_clean a
    · exact tts_clean r x hx
end
section
variable {C : Nat → CF} {d : Nat} {l : Px} {S : Sto} {X : PX} {QD : D → Sto → Prop} {v : D}
def rsd (k : Nat) (v : D) : D := .tup (if k = 0 then [.str "given", v] else if k = 1 then [.str "index", v] else if k = 2 then [.str "reason", v] else [.str "none", .non])
theorem cm_q {k : Nat} (hk : k < 25) : (if clA k ∈ md.cl then md.sub.lookup (clA k, 100088) else none) = some true := by
  rw [if_pos (cl_mem k hk)]
  have := sub_all k hk 24 (by decide)
  rw [show (k == 24 || 24 == 24) = true by simp] at this
  exact this
theorem fin_w {K : Out → Sto → Prop} {su : E Out} {n : En} {d : D} {i : Nat} (hc : Clean d) (e : Wp (su n S) (fun o S' => o = .rt d ∧ S' = S) nX) (hK : K (.rt d) S) : Wp (finCl (some i) S (su n S)) K X := by
  obtain ⟨o, S', e1, e2, e3⟩ := e.ex
  subst e2
  subst e3
  rw [e1]
  unfold finCl
  dsimp only
  rw [if_pos ⟨rfl, hc⟩, wp_ok]
  exact hK
theorem cl_two {a b : D} (h1 : Clean a) (h2 : Clean b) : Clean (.tup [a, b]) := .tup fun x hx => by
  simp at hx
  rcases hx with rfl | rfl
  · exact h1
  · exact h2
theorem raised_ok (U : Us C) {k : Nat} (hk : k < 4) (hc : Clean v) : Wp (C (d + 1) 361 [.int (k : Nat), v] S) (fun r S' => S' = S ∧ r = rsd k v) X := by
  match k, hk with
  | 0, _ =>
    rw [U.u__law_raised]
    simp only [wp_runD, F__law_raised]
    refine ⟨rfl, ?_⟩
    refine wp_sq fun K hK => ?_
    rw [wp_sTry]
    simp
    have c1 : (if (100057 : Nat) ∈ md.cl then md.sub.lookup ((100057 : Nat), (100088 : Nat)) else none) = some true := cm_q (k := 0) (by decide)
    have x1 : ∀ S, instC md.sub md.cl [.exc 100057 [v], .fn 100057] S = some (.bl true, S) := fun S => inst_x (k := 0) (j := 0) (by decide) (by decide) [v] S
    simp only [runCl, c1]
    refine fin_w (d := .tup [.str "given", v]) (cl_two (.str _) hc) ?_ ?_
    · simp [onD, x1]
      rfl
    · rw [hK, then_rt, wp_ok]
      exact ⟨rfl, rfl⟩
  | 1, _ =>
    rw [U.u__law_raised]
    simp only [wp_runD, F__law_raised]
    refine ⟨rfl, ?_⟩
    refine wp_sq fun K hK => ?_
    rw [wp_sTry]
    simp
    have c1 : (if (100082 : Nat) ∈ md.cl then md.sub.lookup ((100082 : Nat), (100088 : Nat)) else none) = some true := cm_q (k := 16) (by decide)
    have x1 : ∀ S, instC md.sub md.cl [.exc 100082 [v], .fn 100082] S = some (.bl true, S) := fun S => inst_x (k := 16) (j := 16) (by decide) (by decide) [v] S
    simp only [runCl, c1]
    refine fin_w (d := .tup [.str "index", v]) (cl_two (.str _) hc) ?_ ?_
    · simp [onD, x1]
      rfl
    · rw [hK, then_rt, wp_ok]
      exact ⟨rfl, rfl⟩
  | 2, _ =>
    rw [U.u__law_raised]
    simp only [wp_runD, F__law_raised]
    refine ⟨rfl, ?_⟩
    refine wp_sq fun K hK => ?_
    rw [wp_sTry]
    simp
    have c1 : (if (100003 : Nat) ∈ md.cl then md.sub.lookup ((100003 : Nat), (100088 : Nat)) else none) = some true := cm_q (k := 20) (by decide)
    have x1 : ∀ S, instC md.sub md.cl [.exc 100003 [v], .fn 100003] S = some (.bl true, S) := fun S => inst_x (k := 20) (j := 20) (by decide) (by decide) [v] S
    simp only [runCl, c1]
    refine fin_w (d := .tup [.str "reason", v]) (cl_two (.str _) hc) ?_ ?_
    · simp [onD, x1]
      rfl
    · rw [hK, then_rt, wp_ok]
      exact ⟨rfl, rfl⟩
  | 3, _ =>
    rw [U.u__law_raised]
    simp only [wp_runD, F__law_raised]
    refine ⟨rfl, ?_⟩
    refine wp_sq fun K hK => ?_
    rw [wp_sTry]
    simp
    have c1 : (if (100120 : Nat) ∈ md.cl then md.sub.lookup ((100120 : Nat), (100088 : Nat)) else none) = some true := cm_q (k := 21) (by decide)
    have x1 : ∀ S, instC md.sub md.cl [.exc 100120 [], .fn 100120] S = some (.bl true, S) := fun S => inst_x (k := 21) (j := 21) (by decide) (by decide) [] S
    simp only [runCl, c1]
    refine fin_w (d := .tup [.str "none", D.non]) (cl_two (.str _) .non) ?_ ?_
    · simp [onD, x1]
    · rw [hK, then_rt, wp_ok]
      exact ⟨rfl, rfl⟩
  | k + 4, h => omega
end
end K00

set_option Elab.async false
set_option linter.all false
set_option maxRecDepth 100000
set_option maxHeartbeats 4000000
noncomputable section
namespace K00
open PySem PySem.Spec PyProof.Rows L2 Jm
section
variable {C : Nat → CF} {d : Nat} {l : Px} {S : Sto} {X : PX} {QD : D → Sto → Prop}
/-- a value as the law draws it -/
theorem val_q {S1 : Sto} {v : D} {i : Nat} {t : D} {g : Int} (h : Thg l 6 S1 t) (e : [t, .int g, .tup [.int 1, .tup [.tup [.int 0, .int 1]]], .str "name"][i]? = some v) : Thg l 6 S1 v := by
  match i, e with
  | 0, e => cases e; exact h
  | 1, e => cases e; exact thg_int _
  | 2, e =>
    cases e
    refine thg_tup (m := 5) (by simp) fun x hx => ?_
    rcases List.mem_cons.mp hx with rfl | hx
    · exact thg_int _
    rw [List.mem_singleton.mp hx]
    refine thg_tup (m := 4) (by simp) fun x hx => ?_
    rw [List.mem_singleton.mp hx]
    refine thg_tup (m := 3) (by simp) fun x hx => ?_
    rcases List.mem_cons.mp hx with rfl | hx
    · exact thg_int _
    rw [List.mem_singleton.mp hx]
    exact thg_int _
  | 3, e => cases e; exact thg_str (by decide +kernel)
  | i + 4, e => cases e
theorem ne_same {a b : Nat} {as : List Bool} (h1 : S[a]? = some (.lst (as.map D.bl))) (h2 : S[b]? = some (.lst (as.map D.bl))) : neD (.loc a) (.loc b) S = some (.bl false, S) := by
  have e2 : ∀ (j : Nat), S[j]? = some (.lst (as.map D.bl)) → pyV S 64 (.loc j) = some (.list (as.map PyData.bool)) := fun j hj => by
    show (match lstAt S j with
      | some xs => (allSome (xs.map (pyV S 63))).map PyData.list
      | none => none) = _
    rw [lstAt_eq hj]
    show (allSome ((as.map D.bl).map (pyV S 63))).map PyData.list = _
    rw [allSome_fg fun a => py_b.at (by omega) S a]; rfl
  unfold neD
  rw [e2 a h1, e2 b h2]
  show some (D.bl (!PyData.eqvAll (as.map PyData.bool) (as.map PyData.bool)), S) = _
  rw [eqvAll_fg ev_b]; simp
def en8 (l : Px) (k : Nat) (o2 : Option D) (b : Option D) (o4 o5 o6 o7 : Option D) : En := [some (.loc l.l), some (.int (k : Nat)), o2, b, o4, o5, o6, o7]
theorem right_ok (U : Us C) (hp : isPl S l) : Wp (C (d + 9 + 1) 378 [.loc l.l] S) (fun r S' => r = .bl true) X := by
  rw [U.u__law_right]
  simp only [wp_runD, F__law_right]
  refine ⟨rfl, ?_⟩
  refine wp_sq fun K hK => ?_
  simp
  refine wp_rngL (fun i n S' => isPl S' l ∧ ∃ (o1 o2 o3 o4 o5 o6 o7 : Option D), n = [some (.loc l.l), o1, o2, o3, o4, o5, o6, o7]) ⟨hp, _, _, _, _, _, _, _, rfl⟩ (fuel_of (by omega)) ?_ ?_
  · rintro k n S1 T hT hk ⟨hp1, o1, o2, o3, o4, o5, o6, o7, rfl⟩
    simp
    refine wp_fixL (fun i n S' => isPl S' l ∧ ∃ (o3 o4 o5 o6 o7 : Option D), n = [some (.loc l.l), some (.int (k : Nat)), o2, o3, o4, o5, o6, o7]) ⟨hp1, _, _, _, _, _, rfl⟩ (fuel_of (by simp)) ?_ ?_
    · rintro i x n S2 T2 hT2 hx ⟨hp2, o3, o4, o5, o6, o7, rfl⟩
      obtain ⟨b, rfl⟩ : ∃ b : Bool, x = .bl b := by
        match i, hx with
        | 0, e => exact ⟨false, by simpa using e.symm⟩
        | 1, e => exact ⟨true, by simpa using e.symm⟩
        | i + 2, e => simp at e
      refine wp_sq fun K2 hK2 => ?_
      simp
      refine (thing_ok (d := d + 6) U hp2).q ?_
      rintro t S3 ⟨hM3, hp3, ht⟩
      refine (great_ok (d := d + 7) U hp3 (by decide)).q ?_
      rintro _ S4 ⟨hM4, hp4, g, rfl⟩
      refine (one_tupP (d := d + 7) U hp4 (by simp) (by simp)).q ?_
      rintro v S5 ⟨hM5, hp5, i2, hi2⟩
      have hv : Thg l 6 S5 v := (val_q (ht.mono (.of_mod hM4) (Nat.le_refl _)) hi2).mono (.of_mod hM5) (Nat.le_refl _)
      rw [hK2, then_nx]
      clear hK2 K2
      refine wp_sq fun K2 hK2 => ?_
      simp
      obtain ⟨tv, htv, hTv⟩ := hv
      refine (copy_ok (d := d) U 9 tv v S5 _ (by omega) hTv hp5.lt).q ?_
      rintro due S6 ⟨hM6, hdue⟩
      refine made_ok (d := d + 7) U hk ?_
      rw [hK2, then_nx]
      clear hK2 K2
      obtain ⟨fs, hfs⟩ : ∃ fs, fs = (if k < 21 then [v] else []) := ⟨_, rfl⟩
      rw [← hfs]
      have i24 : ∀ S, instC md.sub md.cl [.exv (clA k) fs, .fn 100088] S = some (.bl true, S) := fun S => by have := inst_q hk (j := 24) (by decide) fs S; rw [show (k == 24 || 24 == 24) = true by simp] at this; exact this
      refine wp_sq fun K2 hK2 => ?_
      simp [i24, inst_v hk, inst_t hk]
      rw [hK2, then_nx]
      clear hK2 K2
      refine wp_sq fun K2 hK2 => ?_
      simp
      refine (marks_ok (d := d + 8) U hk fs).q ?_
      rintro _ S7 ⟨hE7, q7, rfl, _, hq7⟩
      refine wp_rngC (fun i a S' => S' = S7 ∧ a = (List.range i).map fun j => D.bl (k == j)) ⟨rfl, rfl⟩ (fuel_of (by omega)) ?_ ?_
      · rintro j a S8 K3 hK3 hj ⟨rfl, rfl⟩
        simp [wipeD]
        rw [hK3]
        refine ⟨line_of (by simp; omega), rfl, ?_⟩
        rw [List.range_succ, List.map_append]
        congr 1
        show [D.bl _] = [D.bl _]
        congr 2
        by_cases h : k = j
        · subst h; simp
        · rw [decide_eq_false (by omega), beq_eq_false_iff_ne.mpr h]
      · rintro a S8 ⟨rfl, rfl⟩
        obtain ⟨S9, e9⟩ : ∃ S9, S9 = S8 ++ [O.lst ((List.range 24).map fun j => D.bl (k == j))] := ⟨_, rfl⟩
        have hE9 : Ext S8 S9 := e9 ▸ List.prefix_append ..
        have q9 : S9[S8.length]? = some (O.lst ((List.range 24).map fun j => D.bl (k == j))) := by rw [e9]; exact get_new
        rw [← e9]
        rw [ne_same (as := (List.range 24).map fun j => (k == j)) (by rw [List.map_map]; exact hE9.get hq7) (by rw [List.map_map]; exact q9)]
        simp
        rw [hK2, then_nx]
        clear hK2 K2
        have hp6 : isPl S6 l := ⟨hM6.pool hp5.1, Nat.le_trans hp5.2 hM6.1⟩
        have hp9 := (hp6.ext hE7).ext hE9
        have hv9 : Tt l S9 tv v := ((hTv.mono (hM6.2 _)).mono (.of_ext hE7)).mono (.of_ext hE9)
        have hd9 : Tt l S9 tv due := (hdue.mono (.of_ext hE7)).mono (.of_ext hE9)
        simp
        refine ⟨fun h21 => ?_, fun h21 => ?_⟩
        · have h21 : k < 21 := by omega
          rw [if_pos h21] at hfs
          rw [hfs]
          refine kept_ok (d := d + 8) U h21 ?_
          refine (alike_ok (d := d) U 9 tv v due S9 _ (by omega) hv9 hd9 hp9.lt).q ?_
          rintro _ S10 ⟨hM10, rfl⟩
          simp
          rw [hT2, turn_nx]
          exact ⟨⟨hM10.pool hp9.1, Nat.le_trans hp9.2 hM10.1⟩, _, _, _, _, _, rfl⟩
        · rw [hT2, turn_nx]
          exact ⟨hp9, _, _, _, _, _, rfl⟩
    · rintro n S2 ⟨hp2, o3, o4, o5, o6, o7, rfl⟩
      rw [then_nx]
      simp
      rw [hT, turn_nx]
      exact ⟨hp2, _, _, _, _, _, _, _, rfl⟩
  · rintro n S1 ⟨hp1, o1, o2, o3, o4, o5, o6, o7, rfl⟩
    rw [hK, then_nx]
    clear hK K
    refine wp_sq fun K hK => ?_
    simp
    rw [hK, then_nx]
    clear hK K
    refine wp_sq fun K hK => ?_
    simp
    refine wp_rngL (fun i n S' => isPl S' l ∧ ∃ (o1 o3 o4 o5 o6 o7 : Option D), n = [some (.loc l.l), o1, some (.tup [.str "given", .str "index", .str "reason", .str "none"]), o3, o4, o5, o6, o7]) ⟨hp1, _, _, _, _, _, _, rfl⟩ (fuel_of (by omega)) ?_ ?_
    · rintro k n S2 T hT hk ⟨hp2, o1, o3, o4, o5, o6, o7, rfl⟩
      simp
      refine (thing_ok (d := d + 6) U hp2).q ?_
      rintro v S3 ⟨hM3, hp3, tv, htv, hv⟩
      refine (raised_ok (d := d + 8) U hk (tt_clean hv)).q ?_
      rintro _ S4 ⟨rfl, rfl⟩
      have al : ∀ (w : Str) (x : D) (X : PX), PyData.strOk w = true → Thg l 6 S4 x → Wp (C (d + 9) 35 [.tup [.str w, x], .tup [.str w, x]] S4) (fun r S' => Mx S4 S' ∧ r = .bl true) X := fun w x X hw hx => by
        obtain ⟨t, h1, h2⟩ := thg_tup (l := l) (m := 6) (S := S4) (ds := [.str w, x]) (by simp) (fun y hy => by
          rcases List.mem_cons.mp hy with rfl | hy
          · exact thg_str hw
          · rw [List.mem_singleton.mp hy]; exact hx)
        exact alike_ok (d := d) U 9 t _ _ S4 X (by omega) h2 h2 hp3.lt
      match k, hk with
      | 0, _ =>
        rw [show idxD (D.tup [D.str "given", D.str "index", D.str "reason", D.str "none"]) (D.int ((0 : Nat) : Int)) S4 = some (.str "given", S4) from rfl]
        simp [rsd]
        refine (al "given" v _ (by decide +kernel) ⟨tv, htv, hv⟩).q ?_
        rintro _ S5 ⟨hM5, rfl⟩
        simp
        rw [hT, turn_nx]
        exact ⟨⟨hM5.pool hp3.1, Nat.le_trans hp3.2 hM5.1⟩, _, _, _, _, _, _, rfl⟩
      | 1, _ =>
        rw [show idxD (D.tup [D.str "given", D.str "index", D.str "reason", D.str "none"]) (D.int ((1 : Nat) : Int)) S4 = some (.str "index", S4) from rfl]
        simp [rsd]
        refine (al "index" v _ (by decide +kernel) ⟨tv, htv, hv⟩).q ?_
        rintro _ S5 ⟨hM5, rfl⟩
        simp
        rw [hT, turn_nx]
        exact ⟨⟨hM5.pool hp3.1, Nat.le_trans hp3.2 hM5.1⟩, _, _, _, _, _, _, rfl⟩
      | 2, _ =>
        rw [show idxD (D.tup [D.str "given", D.str "index", D.str "reason", D.str "none"]) (D.int ((2 : Nat) : Int)) S4 = some (.str "reason", S4) from rfl]
        simp [rsd]
        refine (al "reason" v _ (by decide +kernel) ⟨tv, htv, hv⟩).q ?_
        rintro _ S5 ⟨hM5, rfl⟩
        simp
        rw [hT, turn_nx]
        exact ⟨⟨hM5.pool hp3.1, Nat.le_trans hp3.2 hM5.1⟩, _, _, _, _, _, _, rfl⟩
      | 3, _ =>
        rw [show idxD (D.tup [D.str "given", D.str "index", D.str "reason", D.str "none"]) (D.int ((3 : Nat) : Int)) S4 = some (.str "none", S4) from rfl]
        simp [rsd]
        refine (al "none" .non _ (by decide +kernel) thg_non).q ?_
        rintro _ S5 ⟨hM5, rfl⟩
        simp
        rw [hT, turn_nx]
        exact ⟨⟨hM5.pool hp3.1, Nat.le_trans hp3.2 hM5.1⟩, _, _, _, _, _, _, rfl⟩
      | k + 4, h => omega
    · rintro n S2 ⟨hp2, o1, o3, o4, o5, o6, o7, rfl⟩
      rw [hK, then_nx]
      simp
end
end K00

set_option Elab.async false
set_option linter.all false
set_option maxRecDepth 100000
set_option maxHeartbeats 4000000
noncomputable section
namespace K00
open PySem PySem.Spec PyProof.Rows L2 Jm
section
variable {C : Nat → CF} {d : Nat} {S : Sto} {X : PX} {QD : D → Sto → Prop}
theorem law_go (U : Us C) {ns : List Int} (hn : ns.length ≤ 63) : Wp (C (d + 11 + 1) 788 [.scr (ns.map .int)] []) (fun r _ => r = .bl true) nX := by
  rw [U.u_law]
  simp only [wp_runD, F_law]
  refine ⟨rfl, ?_⟩
  simp
  rw [show minX [D.int (ns.length : Int), D.int 3] [] = some (.int (minI [(ns.length : Int), 3]), []) from rfl]
  simp only [wp_some]
  rw [show maxX [D.int 1, D.int (minI [(ns.length : Int), 3])] [] = some (.int (maxI [1, minI [(ns.length : Int), 3]]), []) from rfl]
  simp only [wp_some]
  obtain ⟨k, ek, hk⟩ : ∃ k : Nat, maxI [1, minI [(ns.length : Int), 3]] = k ∧ k ≤ 3 := by
    rw [maxI2, minI2]
    exact ⟨(max 1 (min (ns.length : Int) 3)).toNat, by omega, by omega⟩
  rw [ek]
  simp
  refine ⟨by omega, ?_⟩
  refine wp_rngC (fun i a S' => a = (List.replicate i true).map D.bl) rfl (fuel_of (by omega)) ?_ ?_
  · rintro i a S3 K hK hi rfl
    simp [wipeD]
    refine (pool_ok (d := d + 10) U hn (by omega)).q ?_
    rintro r S4 ⟨hE4, l, rfl, hl, hw⟩
    refine (right_ok (d := d + 1) (l := ⟨l, 0⟩) U ⟨hw, Nat.zero_le _⟩).q ?_
    rintro r S5 rfl
    rw [hK]
    refine ⟨line_of (by simp; omega), ?_⟩
    rw [List.replicate_succ']
    simp
  · rintro a S3 rfl
    rw [quan_lst (bs := List.replicate k true) get_new]
    simp
theorem law_ok : LawOk Z 61 r_law.i 63 := by
  intro ns hn
  obtain ⟨r, S, h1, h2⟩ := (law_go (d := 49) us_ok hn).ex
  subst h2
  exact ⟨S, h1⟩
end
end K00

set_option Elab.async false
set_option linter.all false
set_option maxRecDepth 100000
set_option maxHeartbeats 4000000
noncomputable section
namespace K00
open PySem PySem.Spec PyProof.Rows L2 Jm
abbrev R : PySem.W.OpenRow := PySem.W.OpenLaw.row PySem.Challenge.rw_jointmaps_k00_errors_each_of_its_own
abbrev hk : PySem.W.Hook := hookJ Z
def ob (s : PySem.W.SharedT) : AlJ := obsJG Z (HandSHeadRun.getT s)
theorem ob_eq (s : PySem.W.SharedT) : ob s = hk.obs s.abs := obsJG_eq (HandSHeadRun.getT_eq s)
def loose0 : List PySem.Str := ["_law_pool", "_law_below", "_law_one", "_law_great", "_law_thing", "_law_copy", "_law_alike", "_law_made", "_law_made_others", "_law_marks", "_law_kept", "_law_raised", "_law_right", "JointError", "InvalidNumber", "InvalidMap", "InvalidEnd", "InvalidJoint", "InvalidDeed", "InvalidTree", "InvalidOpen", "InvalidDress", "InvalidLot", "InvalidName", "InvalidLine"]
def loose1 : List PySem.Str := ["NotARoom", "InvalidPieces", "InvalidMaps", "InvalidWeights", "InvalidForks", "InvalidWay", "InvalidReports", "InvalidAct", "InvalidText", "Barred", "TooMany", "NoneFits", "NothingToUndo"]
abbrev loose : List PySem.Str := loose0 ++ loose1
set_option maxHeartbeats 0 in
theorem run (w : World) : HandSHeadRun.RunEq R (PySem.W.view R.prog [40]) hk ob 12000 loose w := by
  intro os
  kernel_rfl
end K00
open PySem PySem.W PySem.Calls PyProof.Rows
theorem PySem.Challenge.cw_jointmaps_k00_errors_each_of_its_own_holds : PySem.Challenge.rw_jointmaps_k00_errors_each_of_its_own.Holds := by
  w_on; o_law
  refine HandSHeadRun.head_any (r := OpenLaw.row PySem.Challenge.rw_jointmaps_k00_errors_each_of_its_own) (q := view (OpenLaw.row PySem.Challenge.rw_jointmaps_k00_errors_each_of_its_own).prog [40]) (H := K00.hk) (ob := K00.ob) (M := 12000) (loose := K00.loose) (d := HandSHeadRun.topDef (OpenLaw.row PySem.Challenge.rw_jointmaps_k00_errors_each_of_its_own).prog 40) (kwd := []) K00.ob_eq
    (by kernel_rfl) (fun s => by kernel_rfl) K00.run (by kernel_rfl) (by kernel_rfl) (by kernel_rfl) (by rfl) (by first | assumption | decide +kernel) (by decide +kernel) ⟨rfl, rfl, rfl, rfl, rfl, by decide +kernel⟩ ?hw ?hc
  case hw => w_witness2
  case hc =>
    refine L2.walk_ofE (l := PySem.Challenge.rw_jointmaps_k00_errors_each_of_its_own) (n := 63) (k := 60 + 3) (x := "script") (CX := L2.CX0) rfl (by decide) (by kernel_rfl) ⟨rfl, by decide, by decide⟩ ?F (fun _ _ _ _ z => z)
    intro w mg fa h Y G hmg0
    obtain ⟨K, KX, c⟩ := Y
    have hmg : mg K00.r_law.x = some (.ref fa) := by
      have e : (HandSHeadRun.topDef (OpenLaw.row PySem.Challenge.rw_jointmaps_k00_errors_each_of_its_own).prog 40).name = K00.r_law.x := by kernel_rfl
      rw [← e]
      exact hmg0
    exact Jm.law_facts (r := K00.r_law) (d := 60) KX G c K00.zB (List.mem_of_getElem? (i := 13) rfl) ⟨_, rfl⟩ rfl hmg K00.law_ok


