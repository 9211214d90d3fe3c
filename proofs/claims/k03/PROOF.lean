import PyProof.Rows.All
import Wide.All
import OpenK.AllK
import Wide.FinOn
import HandS.ForMost
import KE.KeyNested
import KE.KDictCopyH
import KE.SortData
import KE.KMathGC
import KE.DataMinMax
import HandS.Walk
import HandS.Wide
import HandS.Gcd
import HandS.TupAny
import HandS.TupMul
import HandS.TupLen
import HandS.Style
import HandS.IsInst
import HandS.Deep
import PyProof.Rows.InDataRows
import HandS.Iter
import HandS.DictTup
import HandS.More
import KE.KDictPairs
import KE.GoesEnum
import KE.GoesMore
import HandS.Zip
import HandS.ListItems
import HandS.TryOnly
import KE.KDictSum
import HandS.DictComp
import HandS.Conv
import HandS.Codes
import HandS.WideMore
import HandS.Defaults
import HandS.Ends
import HandS.EndBits
import HandS.HeadEnd
import HandS.HeadHook1
import HandS.HeadHook2
import HandS.Head0
import HandS.Head1
import HandS.Head2
import HandS.Head3
import PySem.Challenge.RW_rowhidden_k03_main_greatest_ratios_go_al
set_option Elab.async false
set_option linter.all false
set_option maxRecDepth 100000
/-! RA: a dict whatever its keys are: whole numbers, truth values, texts, None, tuples of such. -/
namespace GD
open PySem PySem.Spec
/-- v is the key k -/
def KeyAt (h : Heap) (k : NestedKey) (v : Value) : Prop := NestedIs h k v ∧ k.depth ≤ 8
/-- the entries have the keys ks -/
structure Ents (w : World) (h : Heap) (es : List DictEntry) (ks : List NestedKey) : Prop where
  len : es.length = ks.length
  at_ : ∀ (i : Nat) (e : DictEntry) (k : NestedKey), es[i]? = some e → ks[i]? = some k → KeyAt h k e.key ∧ e.hash = k.hash w
section
variable {prog : Program} {w : World} {A : Around} {E : Value → Shared → Prop} {s : Shared} {es : Array DictEntry} {ks : List NestedKey} {k : NestedKey} {kv : Value} {d : Addr} {o : Obj} {ep : Nat}
theorem Ents.key {h : Heap} {l : List DictEntry} (e : Ents w h l ks) {i : Nat} {x : DictEntry} (hx : l[i]? = some x) : ∃ q, ks[i]? = some q ∧ KeyAt h q x.key ∧ x.hash = q.hash w := by
  have hi : i < ks.length := by
    have := (List.getElem?_eq_some_iff.mp hx).1
    have := e.len
    omega
  exact ⟨ks[i], List.getElem?_eq_getElem hi, e.at_ i x _ hx (List.getElem?_eq_getElem hi)⟩
theorem Ents.ent {h : Heap} {l : List DictEntry} (e : Ents w h l ks) {i : Nat} (hx : ks[i]? = some k) : ∃ x, l[i]? = some x ∧ KeyAt h k x.key ∧ x.hash = k.hash w := by
  have hi : i < l.length := by
    rw [e.len]
    exact (List.getElem?_eq_some_iff.mp hx).1
  exact ⟨l[i], List.getElem?_eq_getElem hi, e.at_ i _ _ (List.getElem?_eq_getElem hi) hx⟩
abbrev plc (w : World) (es : Array DictEntry) (k : NestedKey) : List Nat := placesWithHash es.size (fun i => es[i]?.map (·.hash)) (k.hash w)
theorem plc_mem (he : Ents w s.heap es.toList ks) {j : Nat} (hj : ks[j]? = some k) : j ∈ plc w es k := by
  obtain ⟨x, hx, _, hh⟩ := he.ent hj
  have hx' : es[j]? = some x := by rw [← Array.getElem?_toList]; exact hx
  have hlt : j < es.size := (Array.getElem?_eq_some_iff.mp hx').1
  unfold plc placesWithHash
  rw [List.mem_filter]
  refine ⟨List.mem_range.mpr hlt, ?_⟩
  show (es[j]?.map (·.hash) == some (k.hash w)) = true
  rw [hx', Option.map_some, hh]
  exact beq_self_eq_true _
theorem plc_nodup : (plc w es k).Nodup := by
  unfold plc placesWithHash
  exact List.Pairwise.filter _ List.nodup_range
theorem uniq (nd : ks.Nodup) {i j : Nat} (hi : ks[i]? = some k) (hj : ks[j]? = some k) : i = j :=
  (List.getElem?_inj (List.getElem?_eq_some_iff.mp hi).1 nd).mp (hi.trans hj.symm)
/-- the walk among keys carried by value -/
theorem plain_walk {Q : Option Nat → Shared → Prop} (hu : A.units + 8 < cLine) (hk : KeyAt s.heap k kv) (ho : s.heap.get? d = some o) (hd : o.data = .dict es ep) (he : Ents w s.heap es.toList ks)
    (hn : k ∉ ks → Q none s) (hs : ∀ j, ks[j]? = some k → Q (some j) s) : wpAny (model prog w) A (dictWalkPlain d kv (k.hash w) es (plc w es k)) Q E s := by
  unfold dictWalkPlain
  refine wpAny_bind ?_
  refine wpAny_forIn_list _ (fun rest b s' => s' = s ∧ b = (none, ()) ∧ ∀ j, ks[j]? = some k → j ∈ rest) _ ?_ ?_ _ _ ⟨rfl, rfl, fun j hj => plc_mem he hj⟩
  · rintro x rest b s' ⟨e1, e2, inv⟩
    subst e1 e2
    have onward : ks[x]? ≠ some k → ∀ j, ks[j]? = some k → j ∈ rest := fun hx j hj => by
      rcases List.mem_cons.mp (inv j hj) with e | e
      · exact absurd (e ▸ hj) hx
      · exact e
    cases hx : es[x]? with
    | none =>
      refine wpAny_pure ⟨rfl, rfl, onward fun z => ?_⟩
      obtain ⟨y, hy, _⟩ := he.ent z
      rw [Array.getElem?_toList, hx] at hy
      cases hy
    | some y =>
      obtain ⟨q, hq, kq, hh⟩ := he.key (i := x) (x := y) (by rw [Array.getElem?_toList]; exact hx)
      dsimp only
      by_cases hz : (y.hash == k.hash w) = true
      · rw [if_pos hz]
        refine wpAny_bind (wpAny_dictEpoch ho hd (wpAny_bind (eqAt_key q k A s' y.key kv kq.1 hk.1 (by have := kq.2; omega) _ _ _ _ (wpAny_bind (wpAny_dictEpoch ho hd ?_)))))
        rw [if_neg (by simp), ← NestedKey.decide_eq]
        by_cases hqk : q = k
        · subst hqk
          rw [decide_eq_true rfl]
          exact wpAny_bind (wpAny_rule (wpAny_pure (wpAny_pure (hs x hq))))
        · rw [decide_eq_false hqk]
          exact wpAny_bind (wpAny_rule (wpAny_pure ⟨rfl, rfl, onward fun z => hqk (by rw [hq] at z; cases z; rfl)⟩))
      · rw [if_neg hz]
        refine wpAny_pure ⟨rfl, rfl, onward fun z => ?_⟩
        rw [hq] at z
        cases z
        rw [hh] at hz
        simp at hz
  · rintro b s' ⟨e1, e2, inv⟩
    subst e1 e2
    refine wpAny_pure (hn fun z => ?_)
    obtain ⟨j, hj⟩ := List.mem_iff_getElem?.mp z
    cases inv j hj
/-- asking a table of keys tells nothing -/
theorem table_quiet {stored : List Value} {Q : Bool → Shared → Prop} (hk : KeyAt s.heap k kv) (hst : ∀ v ∈ stored, ∃ q, KeyAt s.heap q v) (h : Q false s) : wpAny (model prog w) A (tableMayTell kv stored) Q E s := by
  unfold tableMayTell
  split
  · exact wpAny_pure h
  · refine wpAny_bind (quiet_key k kv 8 s hk.1 hk.2 _ _ _ ?_)
    rw [if_neg (by simp)]
    refine wpAny_bind ?_
    refine wpAny_forIn_list _ (fun rest r s' => s' = s ∧ r = (none, ()) ∧ ∀ v, v ∈ rest → ∃ q, KeyAt s.heap q v) _ ?_ ?_ _ _ ⟨rfl, rfl, hst⟩
    · rintro x rest r s' ⟨e1, e2, inv⟩
      subst e1 e2
      obtain ⟨q, hq⟩ := inv x List.mem_cons_self
      refine wpAny_bind (quiet_key q x 8 s' hq.1 hq.2 _ _ _ ?_)
      rw [if_neg (by simp)]
      exact wpAny_pure ⟨rfl, rfl, fun v hv => inv v (List.mem_cons_of_mem _ hv)⟩
    · rintro r s' ⟨e1, e2, _⟩
      subst e1 e2
      exact wpAny_pure h
theorem by_val {h : Heap} {v : Value} (hk : KeyAt h k v) (hv : carriedByValue v = false) : ∃ a, v = .ref a := by
  cases v <;> first | exact ⟨_, rfl⟩ | cases hv
theorem is_str {h : Heap} {x : Str} {t : Tok} (hk : KeyAt h k (.str x t)) : k = .text x := by
  obtain ⟨hk, _⟩ := hk
  cases hk
  rfl
/-- a walk among keys of all kinds, its body told by what it does -/
theorem slow_walk {f : Nat → Option (Option Nat) × Option Nat → Sem (ForInStep (Option (Option Nat) × Option Nat))} (he : Ents w s.heap es.toList ks) (nd : ks.Nodup)
    (hf : ∀ (x : Nat) (hit : Option Nat) (R : ForInStep (Option (Option Nat) × Option Nat) → Shared → Prop), (ks[x]? ≠ some k → R (.yield (none, hit)) s) → (ks[x]? = some k → hit = none ∧ R (.yield (none, some x)) s ∧ R (.done (some (some x), hit)) s) → wpAny (model prog w) A (f x (none, hit)) R E s) :
    wpAny (model prog w) A (forIn (plc w es k) (none, none) f) (fun b s' => s' = s ∧ ((b.1 = none ∧ ((b.2 = none ∧ k ∉ ks) ∨ ∃ j, b.2 = some j ∧ ks[j]? = some k)) ∨ ∃ j, b.1 = some (some j) ∧ ks[j]? = some k)) E s := by
  refine wpAny_forIn_list _ (fun rest b s1 => s1 = s ∧ rest.Nodup ∧ ∃ hit, b = (none, hit) ∧ ((hit = none ∧ ∀ j, ks[j]? = some k → j ∈ rest) ∨ ∃ j, hit = some j ∧ ks[j]? = some k ∧ j ∉ rest)) _ ?_ ?_ _ _ ⟨rfl, plc_nodup, none, rfl, .inl ⟨rfl, fun j hj => plc_mem he hj⟩⟩
  · rintro x rest b s1 ⟨e1, nr, hit, e2, inv⟩
    subst e1 e2
    obtain ⟨n1, n2⟩ := List.nodup_cons.mp nr
    refine hf x hit _ (fun hx => ?_) fun hx => ?_
    · refine ⟨rfl, n2, hit, rfl, ?_⟩
      rcases inv with ⟨h0, inv⟩ | ⟨j, h1, h2, h3⟩
      · refine .inl ⟨h0, fun j hj => ?_⟩
        rcases List.mem_cons.mp (inv j hj) with e | e
        · exact absurd (e ▸ hj) hx
        · exact e
      · exact .inr ⟨j, h1, h2, fun z => h3 (List.mem_cons_of_mem _ z)⟩
    · rcases inv with ⟨h0, inv⟩ | ⟨j, h1, h2, h3⟩
      · exact ⟨h0, ⟨rfl, n2, some x, rfl, .inr ⟨x, rfl, hx, n1⟩⟩, rfl, .inr ⟨x, rfl, hx⟩⟩
      · exact absurd (uniq nd h2 hx ▸ List.mem_cons_self) h3
  · rintro b s1 ⟨e1, _, hit, e2, inv⟩
    subst e1 e2
    refine ⟨rfl, .inl ⟨rfl, ?_⟩⟩
    rcases inv with ⟨h0, inv⟩ | ⟨j, h1, h2, h3⟩
    · refine .inl ⟨h0, fun z => ?_⟩
      obtain ⟨j, hj⟩ := List.mem_iff_getElem?.mp z
      cases inv j hj
    · exact .inr ⟨j, h1, h2⟩
/-- where a key stands -/
theorem find_key {Q : Option Nat → Shared → Prop} (hu : A.units + 8 < cLine) (hk : KeyAt s.heap k kv) (ho : s.heap.get? d = some o) (hd : o.data = .dict es ep) (he : Ents w s.heap es.toList ks) (nd : ks.Nodup)
    (hn : k ∉ ks → Q none s) (hs : ∀ j, ks[j]? = some k → Q (some j) s) : wpAny (model prog w) A (dictFind d kv (k.hash w)) Q E s := by
  have keys : ∀ v ∈ (plc w es k).filterMap (fun i => es[i]?.map (·.key)), ∃ q, KeyAt s.heap q v := by
    intro v hv
    obtain ⟨i, _, hi⟩ := List.mem_filterMap.mp hv
    cases hx : es[i]? with
    | none => rw [hx] at hi; cases hi
    | some y =>
      rw [hx] at hi
      cases hi
      obtain ⟨q, _, kq, _⟩ := he.key (i := i) (x := y) (by rw [Array.getElem?_toList]; exact hx)
      exact ⟨q, kq⟩
  have odd : ¬ (es.any fun e => e.key == kv && e.hash != k.hash w) = true := by
    rw [Array.any_eq_true]
    rintro ⟨i, hi, hc⟩
    obtain ⟨q, _, kq, hh⟩ := he.key (i := i) (x := es[i]) (by rw [Array.getElem?_toList]; exact Array.getElem?_eq_getElem hi)
    rw [Bool.and_eq_true] at hc
    have e1 := eq_of_beq hc.1
    rw [e1] at kq
    have e2 := NestedIs.inj _ _ _ kq.1 hk.1
    rw [e2] at hh
    rw [hh] at hc
    simp at hc
  have plain := plain_walk hu hk ho hd he hn hs (E := E) (prog := prog)
  unfold dictFind
  try with_reducible refine wpAny_holding ?_
  refine wpAny_bind (wpAny_dictEntries ho hd ?_)
  generalize hst : (plc w es k).filterMap (fun i => es[i]?.map (·.key)) = st at keys
  have hst2 : (placesWithHash es.size (fun i => es[i]?.map (·.hash)) (k.hash w)).filterMap (fun i => es[i]?.map (·.key)) = st := hst
  dsimp only
  simp only [hst2]
  have body : ∀ {f : Nat → Option (Option Nat) × Option Nat → Sem (ForInStep (Option (Option Nat) × Option Nat))} {g : Option (Option Nat) × Option Nat → Sem (Option Nat)}, (∀ r h, g (some r, h) = pure r) → (∀ h, g (none, h) = pure h) →
      (∀ (x : Nat) (hit : Option Nat) (R : ForInStep (Option (Option Nat) × Option Nat) → Shared → Prop), (ks[x]? ≠ some k → R (.yield (none, hit)) s) → (ks[x]? = some k → hit = none ∧ R (.yield (none, some x)) s ∧ R (.done (some (some x), hit)) s) → wpAny (model prog w) A (f x (none, hit)) R E s) →
      wpAny (model prog w) A (forIn (plc w es k) (none, none) f >>= g) Q E s := fun {f g} g1 g2 hf =>
    wpAny_bind (wpAny_mono (slow_walk he nd hf) (fun b s' h => by
      obtain ⟨b1, b2⟩ := b
      obtain ⟨e, h⟩ := h
      subst e
      rcases h with ⟨h1, h⟩ | ⟨j, h1, hj⟩
      · simp only at h1
        subst h1
        rw [g2]
        rcases h with ⟨h2, hno⟩ | ⟨j, h2, hj⟩
        · simp only at h2
          subst h2
          exact wpAny_pure (hn hno)
        · simp only at h2
          subst h2
          exact wpAny_pure (hs j hj)
      · simp only at h1
        subst h1
        rw [g1]
        exact wpAny_pure (hs j hj)) fun _ _ h => h)
  have epoch : ∀ {R : Nat → Shared → Prop}, R ep s → wpAny (model prog w) A (dictEpoch d (keyPart kv)) R E s := fun h => wpAny_dictEpoch ho hd h
  have quiet : ∀ {R : Bool → Shared → Prop}, R false s → wpAny (model prog w) A (tableMayTell kv st) R E s := fun h => table_quiet hk keys h
  have same : ∀ {x : Nat} {y : DictEntry} {R : Bool → Shared → Prop}, es[x]? = some y → (ks[x]? ≠ some k → R false s) → (ks[x]? = some k → R true s) → wpAny (model prog w) A (eqBool y.key kv) R E s := fun {x y R} hx h1 h2 => by
    obtain ⟨q, hq, kq, hh⟩ := he.key (i := x) (x := y) (by rw [Array.getElem?_toList]; exact hx)
    refine eqAt_key q k A s y.key kv kq.1 hk.1 (by have := kq.2; omega) _ _ _ _ ?_
    rw [← NestedKey.decide_eq]
    by_cases hqk : q = k
    · rw [decide_eq_true hqk]
      exact h2 (hqk ▸ hq)
    · rw [decide_eq_false hqk]
      exact h1 fun z => hqk (by rw [hq] at z; cases z; rfl)
  have gone : ∀ {x : Nat}, es[x]? = none → ks[x]? ≠ some k := fun {x} hx z => by
    obtain ⟨y, hy, _⟩ := he.ent z
    rw [Array.getElem?_toList, hx] at hy
    cases hy
  have other : ∀ {x : Nat} {y : DictEntry}, es[x]? = some y → ¬ (y.hash == k.hash w) = true → ks[x]? ≠ some k := fun {x y} hx hz z => by
    obtain ⟨y', hy, _, hh⟩ := he.ent z
    rw [Array.getElem?_toList, hx] at hy
    cases hy
    rw [hh] at hz
    simp at hz
  cases kv with
  | str x t =>
    have ek := is_str hk
    subst ek
    by_cases hstr : (es.all fun e => isExactStrKey e.key) = true
    · simp only [hstr, if_true, ite_self]
      unfold foundByValue
      have isx : ∀ {i : Nat} {y : DictEntry}, es[i]? = some y → (y.key.isStr x = true ↔ ks[i]? = some (.text x)) := fun {i y} hy => by
        obtain ⟨q, hq, kq, _⟩ := he.key (i := i) (x := y) (by rw [Array.getElem?_toList]; exact hy)
        have hy' : isExactStrKey y.key = true := by
          rw [Array.all_eq_true] at hstr
          obtain ⟨hi, e⟩ := Array.getElem?_eq_some_iff.mp hy
          rw [← e]
          exact hstr i hi
        cases hz : y.key with
        | str x' t' =>
          rw [hz] at kq
          have eq := is_str kq
          subst eq
          rw [hq]
          constructor
          · intro h
            rw [show x' = x by simpa [Value.isStr] using h]
          · intro h
            cases h
            simp [Value.isStr]
        | _ => rw [hz] at hy'; cases hy'
      cases hf : es.findIdx? (fun e => e.key.isStr x) with
      | none =>
        refine wpAny_pure (hn fun z => ?_)
        obtain ⟨j, hj⟩ := List.mem_iff_getElem?.mp z
        obtain ⟨y, hy, _⟩ := he.ent hj
        have hy' : es[j]? = some y := by rw [← Array.getElem?_toList]; exact hy
        have h1 := Array.findIdx?_eq_none_iff.mp hf y (Array.mem_of_getElem? hy')
        rw [(isx hy').mpr hj] at h1
        cases h1
      | some i =>
        obtain ⟨hi, h1, _⟩ := Array.findIdx?_eq_some_iff_getElem.mp hf
        have hy := Array.getElem?_eq_getElem hi
        have hj := (isx hy).mp h1
        dsimp only
        rw [hy]
        dsimp only
        refine wpAny_bind (epoch (wpAny_bind (same hy (fun ne => absurd hj ne) fun _ => wpAny_bind (epoch ?_))))
        rw [if_neg (by simp), if_pos rfl]
        exact wpAny_bind (wpAny_rule (wpAny_pure (hs i hj)))
    · simp only [hstr, Bool.false_eq_true, if_false]
      by_cases hall : (((Value.str x t) :: st).all carriedByValue) = true
      · rw [if_pos hall]
        exact plain
      · rw [if_neg hall]
        by_cases hone : (st == [Value.str x t]) = true
        · rw [if_pos hone]
          refine wpAny_bind (wpAny_pure ?_)
          rw [if_neg (by simp)]
          refine body (fun _ _ => rfl) (fun _ => rfl) fun ix hit R h1 h2 => ?_
          dsimp only
          cases hx : es[ix]? with
          | none => exact wpAny_pure (h1 (gone hx))
          | some y =>
            dsimp only
            by_cases hz : (y.hash == (NestedKey.text x).hash w) = true
            · rw [if_pos hz]
              refine wpAny_bind (epoch (wpAny_bind (same hx (fun ne => wpAny_bind (epoch ?_)) fun eq => wpAny_bind (epoch ?_))))
              · rw [if_neg (by simp)]
                simp only [Bool.false_eq_true, if_false, Bool.false_and]
                exact wpAny_bind (wpAny_rule (wpAny_pure (h1 ne)))
              · obtain ⟨e0, r1, r2⟩ := h2 eq
                subst e0
                rw [if_neg (by simp)]
                simp only [Option.isSome_none, Bool.false_eq_true, if_false, if_true]
                refine wpAny_bind (wpAny_rule ?_)
                split
                · exact wpAny_pure r2
                · exact wpAny_pure r1
            · rw [if_neg hz]
              exact wpAny_pure (h1 (other hx hz))
        · rw [if_neg hone]
          refine wpAny_bind (quiet ?_)
          rw [if_neg (by simp)]
          refine body (fun _ _ => rfl) (fun _ => rfl) fun ix hit R h1 h2 => ?_
          dsimp only
          cases hx : es[ix]? with
          | none => exact wpAny_pure (h1 (gone hx))
          | some y =>
            dsimp only
            by_cases hz : (y.hash == (NestedKey.text x).hash w) = true
            · rw [if_pos hz]
              refine wpAny_bind (epoch (wpAny_bind (same hx (fun ne => wpAny_bind (epoch ?_)) fun eq => wpAny_bind (epoch ?_))))
              · rw [if_neg (by simp)]
                simp only [Bool.false_eq_true, if_false, Bool.false_and]
                exact wpAny_bind (wpAny_rule (wpAny_pure (h1 ne)))
              · obtain ⟨e0, r1, r2⟩ := h2 eq
                subst e0
                rw [if_neg (by simp)]
                simp only [Option.isSome_none, Bool.false_eq_true, if_false, if_true]
                refine wpAny_bind (wpAny_rule ?_)
                split
                · exact wpAny_pure r2
                · exact wpAny_pure r1
            · rw [if_neg hz]
              exact wpAny_pure (h1 (other hx hz))
  | ref a =>
    rw [if_neg (show ¬ ((Value.ref a :: st).all carriedByValue) = true by simp [carriedByValue])]
    rw [if_neg odd]
    by_cases hone : (st == [Value.ref a]) = true
    · rw [if_pos hone]
      refine wpAny_bind (wpAny_pure ?_)
      rw [if_neg (by simp)]
      refine body (fun _ _ => rfl) (fun _ => rfl) fun ix hit R h1 h2 => ?_
      dsimp only
      cases hx : es[ix]? with
      | none => exact wpAny_pure (h1 (gone hx))
      | some y =>
        dsimp only
        by_cases hz : (y.hash == k.hash w) = true
        · rw [if_pos hz]
          refine wpAny_bind (epoch (wpAny_bind (same hx (fun ne => wpAny_bind (epoch ?_)) fun eq => wpAny_bind (epoch ?_))))
          · rw [if_neg (by simp)]
            simp only [Bool.false_eq_true, if_false, Bool.false_and]
            exact wpAny_bind (wpAny_rule (wpAny_pure (h1 ne)))
          · obtain ⟨e0, r1, r2⟩ := h2 eq
            subst e0
            rw [if_neg (by simp)]
            simp only [Option.isSome_none, Bool.false_eq_true, if_false, if_true]
            refine wpAny_bind (wpAny_rule ?_)
            split
            · exact wpAny_pure r2
            · exact wpAny_pure r1
        · rw [if_neg hz]
          exact wpAny_pure (h1 (other hx hz))
    · rw [if_neg hone]
      refine wpAny_bind (quiet ?_)
      rw [if_neg (by simp)]
      refine body (fun _ _ => rfl) (fun _ => rfl) fun ix hit R h1 h2 => ?_
      dsimp only
      cases hx : es[ix]? with
      | none => exact wpAny_pure (h1 (gone hx))
      | some y =>
        dsimp only
        by_cases hz : (y.hash == k.hash w) = true
        · rw [if_pos hz]
          refine wpAny_bind (epoch (wpAny_bind (same hx (fun ne => wpAny_bind (epoch ?_)) fun eq => wpAny_bind (epoch ?_))))
          · rw [if_neg (by simp)]
            simp only [Bool.false_eq_true, if_false, Bool.false_and]
            exact wpAny_bind (wpAny_rule (wpAny_pure (h1 ne)))
          · obtain ⟨e0, r1, r2⟩ := h2 eq
            subst e0
            rw [if_neg (by simp)]
            simp only [Option.isSome_none, Bool.false_eq_true, if_false, if_true]
            refine wpAny_bind (wpAny_rule ?_)
            split
            · exact wpAny_pure r2
            · exact wpAny_pure r1
        · rw [if_neg hz]
          exact wpAny_pure (h1 (other hx hz))
  | none =>
    by_cases hall : (((Value.none) :: st).all carriedByValue) = true
    · rw [if_pos hall]
      exact plain
    · rw [if_neg hall]
      by_cases hone : (st == [Value.none]) = true
      · rw [if_pos hone]
        refine wpAny_bind (wpAny_pure ?_)
        rw [if_neg (by simp)]
        refine body (fun _ _ => rfl) (fun _ => rfl) fun ix hit R h1 h2 => ?_
        dsimp only
        cases hx : es[ix]? with
        | none => exact wpAny_pure (h1 (gone hx))
        | some y =>
          dsimp only
          by_cases hz : (y.hash == k.hash w) = true
          · rw [if_pos hz]
            refine wpAny_bind (epoch (wpAny_bind (same hx (fun ne => wpAny_bind (epoch ?_)) fun eq => wpAny_bind (epoch ?_))))
            · rw [if_neg (by simp)]
              simp only [Bool.false_eq_true, if_false, Bool.false_and]
              exact wpAny_bind (wpAny_rule (wpAny_pure (h1 ne)))
            · obtain ⟨e0, r1, r2⟩ := h2 eq
              subst e0
              rw [if_neg (by simp)]
              simp only [Option.isSome_none, Bool.false_eq_true, if_false, if_true]
              refine wpAny_bind (wpAny_rule ?_)
              split
              · exact wpAny_pure r2
              · exact wpAny_pure r1
          · rw [if_neg hz]
            exact wpAny_pure (h1 (other hx hz))
      · rw [if_neg hone]
        refine wpAny_bind (quiet ?_)
        rw [if_neg (by simp)]
        refine body (fun _ _ => rfl) (fun _ => rfl) fun ix hit R h1 h2 => ?_
        dsimp only
        cases hx : es[ix]? with
        | none => exact wpAny_pure (h1 (gone hx))
        | some y =>
          dsimp only
          by_cases hz : (y.hash == k.hash w) = true
          · rw [if_pos hz]
            refine wpAny_bind (epoch (wpAny_bind (same hx (fun ne => wpAny_bind (epoch ?_)) fun eq => wpAny_bind (epoch ?_))))
            · rw [if_neg (by simp)]
              simp only [Bool.false_eq_true, if_false, Bool.false_and]
              exact wpAny_bind (wpAny_rule (wpAny_pure (h1 ne)))
            · obtain ⟨e0, r1, r2⟩ := h2 eq
              subst e0
              rw [if_neg (by simp)]
              simp only [Option.isSome_none, Bool.false_eq_true, if_false, if_true]
              refine wpAny_bind (wpAny_rule ?_)
              split
              · exact wpAny_pure r2
              · exact wpAny_pure r1
          · rw [if_neg hz]
            exact wpAny_pure (h1 (other hx hz))
  | bool b =>
    by_cases hall : (((Value.bool b) :: st).all carriedByValue) = true
    · rw [if_pos hall]
      exact plain
    · rw [if_neg hall]
      by_cases hone : (st == [Value.bool b]) = true
      · rw [if_pos hone]
        refine wpAny_bind (wpAny_pure ?_)
        rw [if_neg (by simp)]
        refine body (fun _ _ => rfl) (fun _ => rfl) fun ix hit R h1 h2 => ?_
        dsimp only
        cases hx : es[ix]? with
        | none => exact wpAny_pure (h1 (gone hx))
        | some y =>
          dsimp only
          by_cases hz : (y.hash == k.hash w) = true
          · rw [if_pos hz]
            refine wpAny_bind (epoch (wpAny_bind (same hx (fun ne => wpAny_bind (epoch ?_)) fun eq => wpAny_bind (epoch ?_))))
            · rw [if_neg (by simp)]
              simp only [Bool.false_eq_true, if_false, Bool.false_and]
              exact wpAny_bind (wpAny_rule (wpAny_pure (h1 ne)))
            · obtain ⟨e0, r1, r2⟩ := h2 eq
              subst e0
              rw [if_neg (by simp)]
              simp only [Option.isSome_none, Bool.false_eq_true, if_false, if_true]
              refine wpAny_bind (wpAny_rule ?_)
              split
              · exact wpAny_pure r2
              · exact wpAny_pure r1
          · rw [if_neg hz]
            exact wpAny_pure (h1 (other hx hz))
      · rw [if_neg hone]
        refine wpAny_bind (quiet ?_)
        rw [if_neg (by simp)]
        refine body (fun _ _ => rfl) (fun _ => rfl) fun ix hit R h1 h2 => ?_
        dsimp only
        cases hx : es[ix]? with
        | none => exact wpAny_pure (h1 (gone hx))
        | some y =>
          dsimp only
          by_cases hz : (y.hash == k.hash w) = true
          · rw [if_pos hz]
            refine wpAny_bind (epoch (wpAny_bind (same hx (fun ne => wpAny_bind (epoch ?_)) fun eq => wpAny_bind (epoch ?_))))
            · rw [if_neg (by simp)]
              simp only [Bool.false_eq_true, if_false, Bool.false_and]
              exact wpAny_bind (wpAny_rule (wpAny_pure (h1 ne)))
            · obtain ⟨e0, r1, r2⟩ := h2 eq
              subst e0
              rw [if_neg (by simp)]
              simp only [Option.isSome_none, Bool.false_eq_true, if_false, if_true]
              refine wpAny_bind (wpAny_rule ?_)
              split
              · exact wpAny_pure r2
              · exact wpAny_pure r1
          · rw [if_neg hz]
            exact wpAny_pure (h1 (other hx hz))
  | int i t =>
    by_cases hall : (((Value.int i t) :: st).all carriedByValue) = true
    · rw [if_pos hall]
      exact plain
    · rw [if_neg hall]
      by_cases hone : (st == [Value.int i t]) = true
      · rw [if_pos hone]
        refine wpAny_bind (wpAny_pure ?_)
        rw [if_neg (by simp)]
        refine body (fun _ _ => rfl) (fun _ => rfl) fun ix hit R h1 h2 => ?_
        dsimp only
        cases hx : es[ix]? with
        | none => exact wpAny_pure (h1 (gone hx))
        | some y =>
          dsimp only
          by_cases hz : (y.hash == k.hash w) = true
          · rw [if_pos hz]
            refine wpAny_bind (epoch (wpAny_bind (same hx (fun ne => wpAny_bind (epoch ?_)) fun eq => wpAny_bind (epoch ?_))))
            · rw [if_neg (by simp)]
              simp only [Bool.false_eq_true, if_false, Bool.false_and]
              exact wpAny_bind (wpAny_rule (wpAny_pure (h1 ne)))
            · obtain ⟨e0, r1, r2⟩ := h2 eq
              subst e0
              rw [if_neg (by simp)]
              simp only [Option.isSome_none, Bool.false_eq_true, if_false, if_true]
              refine wpAny_bind (wpAny_rule ?_)
              split
              · exact wpAny_pure r2
              · exact wpAny_pure r1
          · rw [if_neg hz]
            exact wpAny_pure (h1 (other hx hz))
      · rw [if_neg hone]
        refine wpAny_bind (quiet ?_)
        rw [if_neg (by simp)]
        refine body (fun _ _ => rfl) (fun _ => rfl) fun ix hit R h1 h2 => ?_
        dsimp only
        cases hx : es[ix]? with
        | none => exact wpAny_pure (h1 (gone hx))
        | some y =>
          dsimp only
          by_cases hz : (y.hash == k.hash w) = true
          · rw [if_pos hz]
            refine wpAny_bind (epoch (wpAny_bind (same hx (fun ne => wpAny_bind (epoch ?_)) fun eq => wpAny_bind (epoch ?_))))
            · rw [if_neg (by simp)]
              simp only [Bool.false_eq_true, if_false, Bool.false_and]
              exact wpAny_bind (wpAny_rule (wpAny_pure (h1 ne)))
            · obtain ⟨e0, r1, r2⟩ := h2 eq
              subst e0
              rw [if_neg (by simp)]
              simp only [Option.isSome_none, Bool.false_eq_true, if_false, if_true]
              refine wpAny_bind (wpAny_rule ?_)
              split
              · exact wpAny_pure r2
              · exact wpAny_pure r1
          · rw [if_neg hz]
            exact wpAny_pure (h1 (other hx hz))
  | _ =>
    exfalso
    obtain ⟨z, _⟩ := hk
    cases z
/-- the dict at d has just these entries -/
def RawD (h : Heap) (d : Addr) (es : Array DictEntry) : Prop := ∃ o ep, h.get? d = some o ∧ o.ExactDict ∧ o.data = .dict es ep
theorem RawD.typeIs (x : RawD s.heap d es) : s.TypeIs (.ref d) "dict" := let ⟨o, _, ho, hc, _⟩ := x; ⟨o, ho, hc.1⟩
theorem KeyAt.rest {h h' : Heap} {kv : Value} (hk : KeyAt h k kv) (ho : h.get? d = some o) (hd : o.data = .dict es ep) (hs : Heap.SameBut d h h') : KeyAt h' k kv := by
  refine ⟨NestedIs.at (fun b ob vs n hb hc => ?_) k kv hk.1, hk.2⟩
  have hne : b ≠ d := fun e => by
    rw [e, ho] at hb
    cases hb
    rw [hd] at hc
    cases hc
  exact (hs.2 b hne).trans hb
theorem hash_key {Q : Int → Shared → Prop} (hu : A.units + 8 < cLine) (hk : KeyAt s.heap k kv) (h : Q (k.hash w) { s with toks := s.toks + k.draws }) : wpAny (model prog w) A (pyHash kv) Q E s :=
  pyHash_key k kv A s Q hk.1 (by have := hk.2; omega) h
/-- what stands behind a key -/
theorem get_key {Q : Option Value → Shared → Prop} (hu : A.units + 8 < cLine) (hk : KeyAt s.heap k kv) (hd : RawD s.heap d es) (he : Ents w s.heap es.toList ks) (nd : ks.Nodup)
    (hn : k ∉ ks → Q none { s with toks := s.toks + k.draws }) (hs : ∀ (j : Nat) (x : DictEntry), ks[j]? = some k → es[j]? = some x → Q (some x.val) { s with toks := s.toks + k.draws }) : wpAny (model prog w) A (dictGet d kv) Q E s := by
  obtain ⟨o, ep, ho, _, hdd⟩ := hd
  unfold dictGet
  try with_reducible refine wpAny_holding ?_
  refine wpAny_bind (hash_key hu hk (wpAny_bind (find_key (s := { s with toks := s.toks + k.draws }) hu hk ho hdd he nd (fun z => wpAny_pure (hn z)) fun j hj => ?_)))
  obtain ⟨x, hx, _⟩ := he.ent hj
  have hx' : es[j]? = some x := by rw [← Array.getElem?_toList]; exact hx
  refine wpAny_bind (wpAny_dictEntries (s := { s with toks := s.toks + k.draws }) ho hdd ?_)
  rw [hx']
  exact wpAny_pure (hs j x hj hx')
/-- d[k] = v -/
theorem set_key {v : Value} {Q : Unit → Shared → Prop} (hu : A.units + 8 < cLine) (hk : KeyAt s.heap k kv) (hd : RawD s.heap d es) (he : Ents w s.heap es.toList ks) (nd : ks.Nodup) (hz : es.size ≤ sizeLine)
    (hn : k ∉ ks → ∀ h', RawD h' d (es.push ⟨k.hash w, kv, v⟩) → Heap.SameBut d s.heap h' → Q () { s with heap := h', toks := s.toks + k.draws })
    (hs : ∀ j, ks[j]? = some k → ∀ h', RawD h' d (es.modify j fun x => { x with val := v }) → Heap.SameBut d s.heap h' → Q () { s with heap := h', toks := s.toks + k.draws }) : wpAny (model prog w) A (dictSet d kv v) Q E s := by
  obtain ⟨o, ep, ho, hc, hdd⟩ := hd
  unfold dictSet
  try with_reducible refine wpAny_holding ?_
  refine wpAny_bind (hash_key hu hk ?_)
  unfold dictSetHashed
  try with_reducible refine wpAny_holding ?_
  refine wpAny_bind (find_key (s := { s with toks := s.toks + k.draws }) hu hk ho hdd he nd (fun z => ?_) fun j hj => ?_)
  · exact wpAny_bind (wpAny_rule (wpAny_updateDictKeys (hz := by omega) (s := { s with toks := s.toks + k.draws }) ho hdd (hn z _ ⟨_, ep + 1, Heap.get?_update_self _ ho (Obj.isFreed_of_dict (Obj.data_mapDictKeys hdd _)), hc.mapDictKeys _, Obj.data_mapDictKeys hdd _⟩ (Heap.SameBut.update ..))))
  · exact wpAny_bind (wpAny_rule (wpAny_bind (wpAny_updateDict (s := { s with toks := s.toks + k.draws }) ho hdd (wpAny_point (hs j hj _ ⟨_, ep, Heap.get?_update_self _ ho (Obj.isFreed_of_dict (Obj.data_mapDict hdd _)), hc.mapDict _, Obj.data_mapDict hdd _⟩ (Heap.SameBut.update ..))))))
/-- what stands behind a key, or v, which is put -/
theorem setd_key {v : Value} {Q : Value → Shared → Prop} (hu : A.units + 8 < cLine) (hk : KeyAt s.heap k kv) (hd : RawD s.heap d es) (he : Ents w s.heap es.toList ks) (nd : ks.Nodup) (hz : es.size ≤ sizeLine)
    (hn : k ∉ ks → ∀ h', RawD h' d (es.push ⟨k.hash w, kv, v⟩) → Heap.SameBut d s.heap h' → Q v { s with heap := h', toks := s.toks + k.draws })
    (hs : ∀ (j : Nat) (x : DictEntry), ks[j]? = some k → es[j]? = some x → Q x.val { s with toks := s.toks + k.draws }) : wpAny (model prog w) A (dictSetDefault d kv v) Q E s := by
  obtain ⟨o, ep, ho, hc, hdd⟩ := hd
  unfold dictSetDefault
  try with_reducible refine wpAny_holding ?_
  refine wpAny_bind (hash_key hu hk ?_)
  refine wpAny_bind (find_key (s := { s with toks := s.toks + k.draws }) hu hk ho hdd he nd (fun z => ?_) fun j hj => ?_)
  · exact wpAny_bind (wpAny_rule (wpAny_bind (wpAny_updateDictKeys (hz := by omega) (s := { s with toks := s.toks + k.draws }) ho hdd (wpAny_pure (hn z _ ⟨_, ep + 1, Heap.get?_update_self _ ho (Obj.isFreed_of_dict (Obj.data_mapDictKeys hdd _)), hc.mapDictKeys _, Obj.data_mapDictKeys hdd _⟩ (Heap.SameBut.update ..))))))
  · obtain ⟨x, hx, _⟩ := he.ent hj
    have hx' : es[j]? = some x := by rw [← Array.getElem?_toList]; exact hx
    refine wpAny_bind (wpAny_dictEntries (s := { s with toks := s.toks + k.draws }) ho hdd ?_)
    rw [hx']
    exact wpAny_bind (wpAny_rule (wpAny_pure (hs j x hj hx')))
/-- an entry is taken out -/
theorem take_key {Q : Option DictEntry → Shared → Prop} (hu : A.units + 8 < cLine) (hk : KeyAt s.heap k kv) (hd : RawD s.heap d es) (he : Ents w s.heap es.toList ks) (nd : ks.Nodup) (hz : es.size ≤ sizeLine)
    (hn : k ∉ ks → Q none { s with toks := s.toks + k.draws })
    (hs : ∀ (j : Nat) (x : DictEntry), ks[j]? = some k → es[j]? = some x → ∀ h', RawD h' d (es.eraseIdxIfInBounds j) → Heap.SameBut d s.heap h' → Q (some x) { s with heap := h', toks := s.toks + k.draws }) : wpAny (model prog w) A (Builtin.Dict.takeOut d kv) Q E s := by
  obtain ⟨o, ep, ho, hc, hdd⟩ := hd
  unfold Builtin.Dict.takeOut
  try with_reducible refine wpAny_holding ?_
  refine wpAny_bind (hash_key hu hk ?_)
  refine wpAny_bind (find_key (s := { s with toks := s.toks + k.draws }) hu hk ho hdd he nd (fun z => wpAny_pure (hn z)) fun j hj => ?_)
  obtain ⟨x, hx, _⟩ := he.ent hj
  have hx' : es[j]? = some x := by rw [← Array.getElem?_toList]; exact hx
  refine wpAny_bind (wpAny_dictEntries (s := { s with toks := s.toks + k.draws }) ho hdd ?_)
  rw [hx']
  exact wpAny_bind (wpAny_updateDictKeys (hz := by omega) (s := { s with toks := s.toks + k.draws }) ho hdd (wpAny_pure (hs j x hj hx' _ ⟨_, ep + 1, Heap.get?_update_self _ ho (Obj.isFreed_of_dict (Obj.data_mapDictKeys hdd _)), hc.mapDictKeys _, Obj.data_mapDictKeys hdd _⟩ (Heap.SameBut.update ..))))
end
end GD


set_option Elab.async false
set_option linter.all false
set_option maxRecDepth 100000
/-! PLe: a small language for the program's defs, and its evaluator in plain Lean. -/
namespace PL
open PySem PySem.Spec PyProof.Rows L2

abbrev D := PyData

/-! ### the language -/
inductive Cp | eq | ne | lt | le | gt | ge | isin | notin
  deriving DecidableEq
inductive Op2 | add | sub | mul | fdiv | mod | pow
  deriving DecidableEq
inductive Bi | len | abs | int | gcd | lcm | comb | sum | all | any | sorted | tuple | list | dict | max | min
  deriving DecidableEq
inductive Pat
  | v (i : Nat)
  | nil
  | cons (p : Pat) (ps : Pat)
mutual
inductive Ex
  | v (i : Nat) | non | bl (b : Bool) | int (z : Int) | str (x : Str)
  | g (x : Str)
  | op (o : Op2) (a b : Ex)
  | neg (a : Ex)
  | cmp (c : Cp) (a b : Ex)
  | chain (c1 c2 : Cp) (a b d : Ex)
  | chain3 (c1 c2 c3 : Cp) (a b d e : Ex)
  | lrng (a : Ex)
  | isN (a : Ex) | notN (a : Ex)
  | and_ (a b : Ex) | or_ (a b : Ex) | not_ (a : Ex)
  | ite (c a b : Ex)
  | call (f : Str) (as : Exs)
  | bi (f : Bi) (as : Exs)
  | isi (a : Ex) (t : String)
  | tup (as : Exs) | lst (as : Exs)
  | ix (a b : Ex) | sl (a : Ex) (lo hi : Ox) | rev (a : Ex)
  | lc (own : List Nat) (elt : Ex) (p : Pat) (it : Iu) (cond : Ox)
  | dc (own : List Nat) (k v : Ex) (p : Pat) (it : Iu) (cond : Ox)
  | get (a k d : Ex)
  | lvals (a : Ex)
  | oix (i : Nat) (k : Ex) | oget (i : Nat) (k d : Ex) | oin (i : Nat) (neg : Bool) (k : Ex) | olen (i : Nat)
  | rd (p : Pth) | pget (p : Pth) (k d : Ex) | pin (p : Pth) (neg : Bool) (k : Ex) | plen (p : Pth)
/-- a place in what the def owns -/
inductive Pth
  | v (i : Nat) | ix (p : Pth) (k : Ex) | fld (p : Pth) (f : Str)
inductive Exs
  | nil | cons (a : Ex) (as : Exs)
inductive Ox
  | non | some (a : Ex)
inductive Iu
  | seq (a : Ex) | rng1 (a : Ex) | rng2 (a b : Ex) | rng3 (a b c : Ex) | enum (a : Ex) | zip (a b : Ex) | vals (a : Ex) | items (a : Ex)
end
mutual
/-- what is assigned: a value, or a new list or dict of the def's own -/
inductive Rx | ex (e : Ex) | nl (as : Exs) | nd | nd2 (k1 v1 k2 v2 : Ex) | tr (t : Rt)
/-- a new tree of lists and dicts: a value, a list of trees, an empty dict -/
inductive Rt | ex (e : Ex) | nl (as : Rts) | nd
inductive Rts | nil | cons (a : Rt) (as : Rts)
end
mutual
inductive St
  | asg (p : Pat) (e : Ex)
  | new (i : Nat) (r : Rx)
  | par (i j : Nat) (a b : Rx)
  | par3 (i j k : Nat) (a b c : Rx)
  | aug (i : Nat) (o : Op2) (e : Ex)
  | app (i : Nat) (e : Ex)
  | ins (i : Nat) (k e : Ex)
  | put (i : Nat) (k e : Ex)
  | ife (c : Ex) (a b : Ss)
  | for_ (p : Pat) (it : Iu) (body : Ss)
  | whl (c : Ex) (body : Ss)
  | ret (e : Ex) | retN | ex (e : Ex) | raise_ | pass | brk | cont
  | fz (i : Nat) (s : St)
  | papp (p : Pth) (e : Ex)
  | pput (p : Pth) (k e : Ex)
  | paug (p : Pth) (k : Ex) (o : Op2) (e : Ex)
  | sdapp (p : Pth) (k e : Ex)
  | sdput (p : Pth) (k k2 e : Ex)
inductive Ss
  | nil | cons (s : St) (ss : Ss)
end

/-! ### operations on data -/
def szOk (n : Nat) : Bool := decide (n ≤ sizeLine)
def opD : Op2 → D → D → Option D
  | .add, .int a, .int b => some (.int (a + b))
  | .add, .tuple a, .tuple b => if szOk (a.length + b.length) then some (.tuple (a ++ b)) else none
  | .add, .list a, .list b => if szOk (a.length + b.length) then some (.list (a ++ b)) else none
  | .sub, .int a, .int b => some (.int (a - b))
  | .mul, .int a, .int b => if a.natAbs.log2 + b.natAbs.log2 < 1000000 then some (.int (a * b)) else none
  | .mul, .list a, .int k => if 0 ≤ k ∧ k < 2 ^ 63 ∧ szOk (a.length * k.toNat) then some (.list (List.replicate k.toNat a).flatten) else none
  | .mul, .tuple a, .int k => if a.isEmpty = false ∧ 2 ≤ k ∧ k ≤ 1000 ∧ a.length ≤ 1000 then some (.tuple (List.replicate k.toNat a).flatten) else none
  | .fdiv, .int a, .int b => if 0 < b ∧ b.natAbs.log2 < 9000 then some (.int (a / b)) else none
  | .mod, .int a, .int b => if 0 < b then some (.int (a % b)) else none
  | .pow, .int a, .int b => if 0 ≤ b ∧ b ≤ 1000000 ∧ a.natAbs < 2 ^ 64 then some (.int (a ^ b.toNat)) else none
  | _, _, _ => none
def allInts : List D → Option (List Int)
  | [] => some []
  | .int a :: r => (allInts r).map (a :: ·)
  | _ :: _ => none
def allBools : List D → Option (List Bool)
  | [] => some []
  | .bool a :: r => (allBools r).map (a :: ·)
  | _ :: _ => none
/-- a key of a dict -/
def keyOf : D → Option Key
  | .int a => some (.inl a)
  | .str x => some (.inr x)
  | _ => none
def keysOf : List D → Option (List Key)
  | [] => some []
  | d :: r => (keyOf d).bind fun k => (keysOf r).map (k :: ·)
def ltD : D → D → Option Bool
  | .int a, .int b => some (decide (a < b))
  | .tuple a, .tuple b => (allInts a).bind fun xs => (allInts b).map fun ys => HT.lexLt xs ys
  | _, _ => none
/-! keys: what they are up to == -/
mutual
def nk : D → Option NestedKey
  | .none => some .none
  | .bool b => some (.num (if b = true then 1 else 0))
  | .int i => some (.num i)
  | .str x => some (.text x)
  | .tuple ds => (nks ds).map NestedKey.tup
  | _ => none
def nks : List D → Option (List NestedKey)
  | [] => some []
  | d :: r => (nk d).bind fun k => (nks r).map (k :: ·)
end
def kdOf (_T : List D) (d : D) : Option NestedKey := (nk d).bind fun k => if k.depth ≤ 8 then some k else none
def lookD (T : List D) (kvs : List (D × D)) (k : NestedKey) : Option D :=
  match kvs with
  | [] => none
  | p :: r => if kdOf T p.1 = some k then some p.2 else lookD T r k
def putD (T : List D) (kvs : List (D × D)) (k : D) (q : NestedKey) (v : D) : List (D × D) :=
  if (kvs.any fun p => decide (kdOf T p.1 = some q)) = true then kvs.map (fun p => if kdOf T p.1 = some q then (p.1, v) else p) else kvs ++ [(k, v)]
/-- a key that may be asked for or stored -/
def keyK (T : List D) (_kvs : List (D × D)) (k : D) : Option NestedKey := kdOf T k
/-- a dict, not an object (its first key is none) -/
def noO : List (D × D) → Bool
  | (.list [], _) :: _ => false
  | _ => true
/-- look-up: none where it is stuck -/
def getK (T : List D) (kvs : List (D × D)) (k : D) : Option (Option D) := if noO kvs then (kdOf T k).map fun q => lookD T kvs q else none
def cmpD (T : List D) : Cp → D → D → Option Bool
  | .eq, a, b => if SeqAt.shaped a && SeqAt.shaped b then some (PyData.eqv a b) else none
  | .ne, a, b => if SeqAt.shaped a && SeqAt.shaped b then some (!PyData.eqv a b) else none
  | .lt, a, b => ltD a b
  | .le, .int a, .int b => some (decide (a ≤ b))
  | .gt, .int a, .int b => some (decide (b < a))
  | .ge, .int a, .int b => some (decide (b ≤ a))
  | .isin, k, .dict kvs => (getK T kvs k).map Option.isSome
  | .notin, k, .dict kvs => (getK T kvs k).map fun o => !o.isSome
  | .isin, k, .tuple ds => if SeqAt.shaped k && SeqAt.shaped (.tuple ds) then some (ds.any fun z => PyData.eqv z k) else none
  | .notin, k, .tuple ds => if SeqAt.shaped k && SeqAt.shaped (.tuple ds) then some (!ds.any fun z => PyData.eqv z k) else none
  | _, _, _ => none
/-- what an iterable gives -/
def seqD : D → Option (List D)
  | .list ds => some ds
  | .tuple ds => some ds
  | .dict kvs => if noO kvs then some (kvs.map (·.1)) else none
  | _ => none
def toPairs : List D → Option (List (D × D))
  | [] => some []
  | .tuple [k, v] :: r => (toPairs r).map ((k, v) :: ·)
  | _ :: _ => none
def dictOfPairs (T : List D) : List (D × D) → List (D × D) → Option (List (D × D))
  | acc, [] => some acc
  | acc, (k, v) :: r => (keyK T acc k).bind fun q => dictOfPairs T (putD T acc k q v) r
def mkDict (T : List D) (l : List (D × D)) : Option D := (dictOfPairs T [] l).map PyData.dict
def sortOk (l : List D) : Bool := l.all (fun d => l.all fun e => PySem.W.alike d e) && (l.all (fun d => match d with | .tuple (_ :: _) => true | _ => false) || l.all (fun d => match d with | .none => false | .tuple _ => false | _ => true))
  && l.all (fun d => SeqAt.shaped d)
def sortD (l : List D) : Option D := if sortOk l then some (.list (l.mergeSort (PySem.W.dataLe false id))) else none
def sortI (l : List Int) : List Int := l.mergeSort fun a b => decide (a ≤ b)
def biD (T : List D) : Bi → List D → Option D
  | .len, [.list ds] => some (.int ds.length)
  | .len, [.tuple ds] => some (.int ds.length)
  | .len, [.dict ds] => if noO ds then some (.int ds.length) else none
  | .abs, [.int a] => some (.int (if a < 0 then -a else a))
  | .int, [.int a] => some (.int a)
  | .int, [.bool b] => some (.int (if b then 1 else 0))
  | .gcd, [.int a, .int b] => some (.int (Nat.gcd a.natAbs b.natAbs : Nat))
  | .lcm, [.int a, .int b] => if a.natAbs < 2 ^ 64 ∧ b.natAbs < 2 ^ 64 then some (.int (a.natAbs.lcm b.natAbs : Nat)) else none
  | .comb, [.int a, .int b] => if 0 ≤ a ∧ 0 ≤ b ∧ a ≤ 18000 then some (.int (PySem.W.mcComb a b)) else none
  | .sum, [.list ds] => (allInts ds).map fun ns => .int ns.sum
  | .all, [.list ds] => (allBools ds).map fun bs => .bool (bs.all id)
  | .any, [.list ds] => (allBools ds).map fun bs => .bool (bs.any id)
  | .sorted, [.list ds] => sortD ds
  | .sorted, [.dict kvs] => if noO kvs then (match allInts (kvs.map (·.1)) with
    | some ks => some (.list ((sortI ks).map PyData.int))
    | none => sortD (kvs.map (·.1))) else none
  | .tuple, [.list ds] => some (.tuple ds)
  | .list, [.list ds] => some (.list ds)
  | .list, [.tuple ds] => some (.list ds)
  | .list, [.dict kvs] => if noO kvs then some (.list (kvs.map (·.1))) else none
  | .dict, [.tuple ds] => if ds.isEmpty then none else (toPairs ds).bind (mkDict T)
  | .dict, [.list ds] => (toPairs ds).bind (mkDict T)
  | .max, [.int a, .int b] => some (.int (if b > a then b else a))
  | .min, [.int a, .int b] => some (.int (if b < a then b else a))
  | .max, [.tuple ds] => (allInts ds).bind fun ns => match ns with
    | [] => none
    | n :: r => some (.int (r.foldl max n))
  | .min, [.tuple ds] => (allInts ds).bind fun ns => match ns with
    | [] => none
    | n :: r => some (.int (r.foldl min n))
  | _, _ => none
def ixD (T : List D) : D → D → Option D
  | .list ds, .int i => atI ds i
  | .tuple ds, .int i => atI ds i
  | .dict kvs, k => (getK T kvs k).bind id
  | _, _ => none
def cutD (xs : List D) (lo hi : Option Int) : List D := (xs.drop (HT.sIx xs.length 0 lo)).take (HT.sIx xs.length xs.length hi - HT.sIx xs.length 0 lo)
def slD : D → Option Int → Option Int → Option D
  | .list ds, lo, hi => some (.list (cutD ds lo hi))
  | .tuple ds, lo, hi => some (.tuple (cutD ds lo hi))
  | _, _, _ => none
def revD : D → Option D
  | .list ds => some (.list ds.reverse)
  | _ => none
def tyN : D → Option String
  | .none => some "NoneType"
  | .bool _ => some "bool"
  | .int _ => some "int"
  | .str _ => some "str"
  | .tuple _ => some "tuple"
  | .list _ => some "list"
  | .dict _ => none
def isTab : List (String × String × Bool) := [("NoneType", "int", false), ("NoneType", "bool", false), ("NoneType", "tuple", false), ("NoneType", "str", false), ("NoneType", "list", false), ("bool", "int", true), ("bool", "bool", true), ("bool", "tuple", false), ("bool", "str", false), ("bool", "list", false), ("int", "int", true), ("int", "bool", false), ("int", "tuple", false), ("int", "str", false), ("int", "list", false), ("str", "int", false), ("str", "bool", false), ("str", "tuple", false), ("str", "str", true), ("str", "list", false), ("tuple", "int", false), ("tuple", "bool", false), ("tuple", "tuple", true), ("tuple", "str", false), ("tuple", "list", false), ("list", "int", false), ("list", "bool", false), ("list", "tuple", false), ("list", "str", false), ("list", "list", true)]
def isiD (t : String) (d : D) : Option Bool := (tyN d).bind fun a => (isTab.find? fun q => q.1 == a && q.2.1 == t).map fun q => q.2.2
def enumD (ds : List D) : List D := ds.zipIdx.map fun p => .tuple [.int p.2, p.1]
def zipD (ds es : List D) : List D := (ds.zip es).map fun p => .tuple [p.1, p.2]
def rngD (a b : Int) : Option (List D) := if -(2 ^ 62) ≤ a ∧ a < 2 ^ 62 ∧ -(2 ^ 62) ≤ b ∧ b < 2 ^ 62 ∧ b - a ≤ 1000000 then some ((List.range (b - a).toNat).map fun i => .int (a + (i : Nat))) else none
def rngDn (a b : Int) : Option (List D) := if -(2 ^ 62) ≤ a ∧ a < 2 ^ 62 ∧ -(2 ^ 62) ≤ b ∧ b < 2 ^ 62 ∧ a - b ≤ 1000000 then some ((List.range (a - b).toNat).map fun i => .int (a + (i : Nat) * (-1))) else none

/-! ### the frame's slots -/
/-- what a def owns: lists, dicts, objects, one in another; what is frozen hangs in it as it is -/
inductive Od | fz (d : D) | lst (xs : List Od) | dct (ks : List D) (xs : List Od) | obj (c : Str) (ns : List Str) (xs : List Od)
inductive Sl | un | fz (d : D) | ow (d : D) | tr (t : Od)
abbrev En := List Sl
def En.get (ρ : En) (i : Nat) : Option D := match ρ[i]? with
  | some (.fz d) => some d
  | _ => none
def En.own (ρ : En) (i : Nat) : Option D := match ρ[i]? with
  | some (.ow d) => some d
  | _ => none
def En.tree (ρ : En) (i : Nat) : Option Od := match ρ[i]? with
  | some (.tr t) => some t
  | _ => none
/-- a flat list or dict as a tree -/
def Od.ofD : D → Od
  | .list ds => .lst (ds.map Od.fz)
  | .dict kvs => .dct (kvs.map (·.1)) (kvs.map fun p => .fz p.2)
  | d => .fz d
def Sl.od : Sl → Option Od
  | .ow d => some (Od.ofD d)
  | .tr t => some t
  | _ => none
def wipeE (ρ : En) : List Nat → En
  | [] => ρ
  | v :: vs => (wipeE ρ vs).set v .un
/-- the items of what is unpacked -/
def unpD : D → Option (List D)
  | .tuple ds => some ds
  | .list ds => some ds
  | _ => none
def bindP : Pat → D → En → Option En
  | .v i, d, ρ => some (ρ.set i (.fz d))
  | .nil, d, ρ => match unpD d with
    | some [] => some ρ
    | _ => none
  | .cons p ps, d, ρ => match unpD d with
    | some (d1 :: ds) => (bindP p d1 ρ).bind fun ρ1 => bindP ps (.tuple ds) ρ1
    | _ => none
structure Gb where
  fns : Str → Option (List D → Option D)
  cst : Str → Option D
  tups : List D

/-! ### expressions -/
def compL (f : D → Option (Option D)) : List D → Option (List D)
  | [] => some []
  | d :: ds => (f d).bind fun o => match o with
    | none => compL f ds
    | some x => (compL f ds).map (x :: ·)
def compDK (T : List D) (f : D → Option (Option (D × D))) : List D → List (D × D) → Option (List (D × D))
  | [], acc => some acc
  | d :: ds, acc => (f d).bind fun o => match o with
    | none => compDK T f ds acc
    | some (k, v) => (kdOf T k).bind fun q => compDK T f ds (putD T acc k q v)
def asB (o : Option D) : Option Bool := match o with
  | some (.bool b) => some b
  | _ => none
def asI (o : Option D) : Option Int := match o with
  | some (.int b) => some b
  | _ => none
/-- a turn of a comprehension -/
def stepL (own : List Nat) (P : Pat) (fc : En → Option Bool) (fe : En → Option D) (ρ : En) (d : D) : Option (Option D) := (bindP P d (wipeE ρ own)).bind fun ρ1 => (fc ρ1).bind fun c => if c = true then (fe ρ1).map some else some none
def stepDK (own : List Nat) (P : Pat) (fc : En → Option Bool) (fk fv : En → Option D) (ρ : En) (d : D) : Option (Option (D × D)) := (bindP P d (wipeE ρ own)).bind fun ρ1 => (fc ρ1).bind fun c => if c = true then (fk ρ1).bind fun x => (fv ρ1).map fun y => some (x, y) else some none
def isNo : D → Bool
  | .none => true
  | _ => false
def dget (T : List D) (x y z : D) : Option D := match x with
  | .dict kvs => (getK T kvs y).map fun o => o.getD z
  | _ => none
def valsI : D → Option (List D)
  | .dict kvs => if noO kvs then some (kvs.map (·.2)) else none
  | _ => none
def itemsI : D → Option (List D)
  | .dict kvs => if noO kvs then some (kvs.map fun p => .tuple [p.1, p.2]) else none
  | _ => none
def enumI : D → Option (List D)
  | .list ds => some (enumD ds)
  | .tuple ds => some (enumD ds)
  | _ => none
def zipI : D → D → Option (List D)
  | .list ds, .list es => some (zipD ds es)
  | .tuple ds, .tuple es => some (zipD ds es)
  | _, _ => none
def lvalsI : D → Option D
  | .dict kvs => if noO kvs then some (.list (kvs.map (·.2))) else none
  | _ => none
def oixD (T : List D) : D → D → Option D
  | .list ds, .int z => atI ds z
  | _, _ => none
def oinD (T : List D) (n : Bool) : D → D → Option D
  | .dict kvs, y => (getK T kvs y).map fun o => .bool (n != o.isSome)
  | _, _ => none
def olenD : D → Option D
  | .list ds => some (.int ds.length)
  | .dict ds => some (.int ds.length)
  | _ => none
/-! places in a tree: by numbers, one behind the other -/
def Od.kids : Od → List Od
  | .fz _ => []
  | .lst xs => xs
  | .dct _ xs => xs
  | .obj _ _ xs => xs
def Od.at_ : Od → List Nat → Option Od
  | t, [] => some t
  | t, j :: π => t.kids[j]?.bind fun u => u.at_ π
def Od.setKid : Od → Nat → Od → Od
  | .fz d, _, _ => .fz d
  | .lst xs, j, u => .lst (xs.set j u)
  | .dct ks xs, j, u => .dct ks (xs.set j u)
  | .obj c ns xs, j, u => .obj c ns (xs.set j u)
def Od.put_ : Od → List Nat → Od → Od
  | _, [], u => u
  | t, j :: π, u => match t.kids[j]? with
    | some k => t.setKid j (k.put_ π u)
    | none => t
/-- the number of a place, by an item's number or a key -/
def Od.pos (T : List D) : Od → D → Option Nat
  | .lst xs, .int z => ixN xs.length z
  | .dct ks _, d => (kdOf T d).bind fun q => ks.findIdx? fun k => decide (kdOf T k = some q)
  | _, _ => none
def Od.fpos : Od → Str → Option Nat
  | .obj _ ns _, f => ns.findIdx? fun n => decide (n = f)
  | _, _ => none
def Od.toF : Od → Option D
  | .fz d => some d
  | _ => none
/-- a slot and a place in its tree -/
abbrev Pl := Nat × List Nat
def En.sub (ρ : En) (q : Pl) : Option Od := (ρ.tree q.1).bind fun t => t.at_ q.2
def En.putT (ρ : En) (q : Pl) (u : Od) : En := match ρ.tree q.1 with
  | some t => ρ.set q.1 (.tr (t.put_ q.2 u))
  | none => ρ
def pgetD (T : List D) : Od → D → D → Option D
  | .dct ks xs, k, z => (kdOf T k).bind fun q => match ks.findIdx? fun k' => decide (kdOf T k' = some q) with
    | some j => xs[j]?.bind Od.toF
    | none => some z
  | _, _, _ => none
def pinD (T : List D) (n : Bool) : Od → D → Option D
  | .dct ks _, k => (kdOf T k).map fun q => .bool (n != ks.any fun k' => decide (kdOf T k' = some q))
  | _, _ => none
def plenD : Od → Option D
  | .lst xs => some (.int xs.length)
  | .dct ks _ => some (.int ks.length)
  | _ => none
mutual
def ev (G : Gb) : Ex → En → Option D
  | .v i, ρ => ρ.get i
  | .non, _ => some .none
  | .bl b, _ => some (.bool b)
  | .int z, _ => some (.int z)
  | .str x, _ => some (.str x)
  | .g x, _ => G.cst x
  | .op o a b, ρ => (ev G a ρ).bind fun x => (ev G b ρ).bind fun y => opD o x y
  | .neg a, ρ => (asI (ev G a ρ)).map fun z => .int (-z)
  | .cmp c a b, ρ => (ev G a ρ).bind fun x => (ev G b ρ).bind fun y => (cmpD G.tups c x y).map PyData.bool
  | .chain c1 c2 a b d, ρ => (ev G a ρ).bind fun x => (ev G b ρ).bind fun y => (cmpD G.tups c1 x y).bind fun r => if r = true then (ev G d ρ).bind fun z => (cmpD G.tups c2 y z).map PyData.bool else some (.bool false)
  | .chain3 c1 c2 c3 a b d e, ρ => (ev G a ρ).bind fun x => (ev G b ρ).bind fun y => (cmpD G.tups c1 x y).bind fun r => if r = true then (ev G d ρ).bind fun z => (cmpD G.tups c2 y z).bind fun q => if q = true then (ev G e ρ).bind fun w => (cmpD G.tups c3 z w).map PyData.bool else some (.bool false) else some (.bool false)
  | .lrng a, ρ => (asI (ev G a ρ)).bind fun z => (rngD 0 z).map PyData.list
  | .isN a, ρ => (ev G a ρ).map fun x => .bool (isNo x)
  | .notN a, ρ => (ev G a ρ).map fun x => .bool (!isNo x)
  | .and_ a b, ρ => (asB (ev G a ρ)).bind fun x => if x = true then (asB (ev G b ρ)).map PyData.bool else some (.bool false)
  | .or_ a b, ρ => (asB (ev G a ρ)).bind fun x => if x = true then some (.bool true) else (asB (ev G b ρ)).map PyData.bool
  | .not_ a, ρ => (asB (ev G a ρ)).map fun x => .bool (!x)
  | .ite c a b, ρ => (asB (ev G c ρ)).bind fun x => if x = true then ev G a ρ else ev G b ρ
  | .call f as, ρ => (G.fns f).bind fun F => (evs G as ρ).bind F
  | .bi f as, ρ => (evs G as ρ).bind (biD G.tups f)
  | .isi a t, ρ => (ev G a ρ).bind fun x => (isiD t x).map PyData.bool
  | .tup as, ρ => (evs G as ρ).map PyData.tuple
  | .lst as, ρ => (evs G as ρ).map PyData.list
  | .ix a b, ρ => (ev G a ρ).bind fun x => (ev G b ρ).bind fun y => ixD G.tups x y
  | .sl a lo hi, ρ => (ev G a ρ).bind fun x => (evO G lo ρ).bind fun l => (evO G hi ρ).bind fun h => slD x l h
  | .rev a, ρ => (ev G a ρ).bind revD
  | .lc own elt p it cond, ρ => (evI G it ρ).bind fun ds => (compL (stepL own p (fun ρ1 => evC G cond ρ1) (fun ρ1 => ev G elt ρ1) ρ) ds).map PyData.list
  | .dc own k v p it cond, ρ => (evI G it ρ).bind fun ds => (compDK G.tups (stepDK own p (fun ρ1 => evC G cond ρ1) (fun ρ1 => ev G k ρ1) (fun ρ1 => ev G v ρ1) ρ) ds []).map PyData.dict
  | .get a k d, ρ => (ev G a ρ).bind fun x => (ev G k ρ).bind fun y => (ev G d ρ).bind fun z => dget G.tups x y z
  | .lvals a, ρ => (ev G a ρ).bind lvalsI
  | .oix i k, ρ => (ρ.own i).bind fun x => (ev G k ρ).bind fun y => oixD G.tups x y
  | .oget i k d, ρ => (ρ.own i).bind fun x => (ev G k ρ).bind fun y => (ev G d ρ).bind fun z => dget G.tups x y z
  | .oin i n k, ρ => (ρ.own i).bind fun x => (ev G k ρ).bind fun y => oinD G.tups n x y
  | .olen i, ρ => (ρ.own i).bind olenD
  | .rd p, ρ => (evP G p ρ).bind fun q => (ρ.sub q).bind Od.toF
  | .pget p k d, ρ => (evP G p ρ).bind fun q => (ρ.sub q).bind fun t => (ev G k ρ).bind fun y => (ev G d ρ).bind fun z => pgetD G.tups t y z
  | .pin p n k, ρ => (ev G k ρ).bind fun y => (evP G p ρ).bind fun q => (ρ.sub q).bind fun t => pinD G.tups n t y
  | .plen p, ρ => (evP G p ρ).bind fun q => (ρ.sub q).bind plenD
def evP (G : Gb) : Pth → En → Option Pl
  | .v i, ρ => (ρ.tree i).map fun _ => (i, [])
  | .ix p k, ρ => (evP G p ρ).bind fun q => (ρ.sub q).bind fun t => (ev G k ρ).bind fun y => (t.pos G.tups y).map fun j => (q.1, q.2 ++ [j])
  | .fld p f, ρ => (evP G p ρ).bind fun q => (ρ.sub q).bind fun t => (t.fpos f).map fun j => (q.1, q.2 ++ [j])
def evs (G : Gb) : Exs → En → Option (List D)
  | .nil, _ => some []
  | .cons a as, ρ => (ev G a ρ).bind fun x => (evs G as ρ).map (x :: ·)
def evO (G : Gb) : Ox → En → Option (Option Int)
  | .non, _ => some none
  | .some a, ρ => (asI (ev G a ρ)).map some
def evC (G : Gb) : Ox → En → Option Bool
  | .non, _ => some true
  | .some a, ρ => asB (ev G a ρ)
def evI (G : Gb) : Iu → En → Option (List D)
  | .seq a, ρ => (ev G a ρ).bind seqD
  | .rng1 a, ρ => (asI (ev G a ρ)).bind fun z => rngD 0 z
  | .rng2 a b, ρ => (asI (ev G a ρ)).bind fun x => (asI (ev G b ρ)).bind fun y => rngD x y
  | .rng3 a b c, ρ => (asI (ev G a ρ)).bind fun x => (asI (ev G b ρ)).bind fun y => (asI (ev G c ρ)).bind fun z => if z = -1 then rngDn x y else none
  | .enum a, ρ => (ev G a ρ).bind enumI
  | .zip a b, ρ => (ev G a ρ).bind fun x => (ev G b ρ).bind fun y => zipI x y
  | .vals a, ρ => (ev G a ρ).bind valsI
  | .items a, ρ => (ev G a ρ).bind itemsI
end

/-! ### statements -/
inductive Out | nx (ρ : En) | rt (d : D) | bk (ρ : En) | ct (ρ : En)
def forL (step : D → En → Option Out) : List D → En → Option Out
  | [], ρ => some (.nx ρ)
  | d :: ds, ρ => (step d ρ).bind fun o => match o with
    | .nx ρ1 => forL step ds ρ1
    | .ct ρ1 => forL step ds ρ1
    | .bk ρ1 => some (.nx ρ1)
    | .rt x => some (.rt x)
def whL (c : En → Option Bool) (b : En → Option Out) : Nat → En → Option Out
  | 0, _ => none
  | n + 1, ρ => (c ρ).bind fun t => if t = true then (b ρ).bind fun o => match o with
      | .nx ρ1 => whL c b n ρ1
      | .ct ρ1 => whL c b n ρ1
      | .bk ρ1 => some (.nx ρ1)
      | .rt x => some (.rt x)
    else some (.nx ρ)
mutual
/-- a tree, frozen -/
def Od.toD : Od → D
  | .fz d => d
  | .lst xs => .list (Od.toDs xs)
  | .dct ks xs => .dict (ks.zip (Od.toDs xs))
  | .obj c ns xs => .dict ((.list [], .str c) :: (ns.map PyData.str).zip (Od.toDs xs))
def Od.toDs : List Od → List D
  | [] => []
  | t :: ts => t.toD :: Od.toDs ts
end
def freeze (ρ : En) (i : Nat) : En := match ρ[i]? with
  | some (.ow d) => ρ.set i (.fz d)
  | some (.tr t) => ρ.set i (.fz t.toD)
  | _ => ρ
def wFuel : Nat := 100000
/-- a dict with two entries -/
def disp2 (T : List D) (a b c d : D) : Option D := (dictOfPairs T [] [(a, b), (c, d)]).map fun kvs => .dict kvs
mutual
/-- a new tree -/
def evRt (G : Gb) : Rt → En → Option Od
  | .ex e, ρ => (ev G e ρ).map Od.fz
  | .nl as, ρ => (evRts G as ρ).map Od.lst
  | .nd, _ => some (.dct [] [])
def evRts (G : Gb) : Rts → En → Option (List Od)
  | .nil, _ => some []
  | .cons a as, ρ => (evRt G a ρ).bind fun t => (evRts G as ρ).map (t :: ·)
end
def evR (G : Gb) : Rx → En → Option Sl
  | .tr t, ρ => (evRt G t ρ).map Sl.tr
  | .ex e, ρ => (ev G e ρ).map Sl.fz
  | .nl as, ρ => (evs G as ρ).map fun ds => .ow (.list ds)
  | .nd, _ => some (.ow (.dict []))
  | .nd2 k1 v1 k2 v2, ρ => (ev G k1 ρ).bind fun a => (ev G v1 ρ).bind fun b => (ev G k2 ρ).bind fun c => (ev G v2 ρ).bind fun d => (disp2 G.tups a b c d).map Sl.ow
def augD : Op2 → D → D → Option D
  | .add, .int a, .int b => some (.int (a + b))
  | .sub, .int a, .int b => some (.int (a - b))
  | .mul, .int a, .int b => if (-(2 ^ 64) < a ∧ a < 2 ^ 64) ∨ (-(2 ^ 64) < b ∧ b < 2 ^ 64) then some (.int (a * b)) else none
  | .fdiv, .int a, .int b => if 0 < b ∧ b.natAbs.log2 < 9000 then some (.int (a / b)) else none
  | .mod, .int a, .int b => if 0 < b then some (.int (a % b)) else none
  | _, _, _ => none
def appD : D → D → Option D
  | .list ds, d => if szOk (ds.length + 1) then some (.list (ds ++ [d])) else none
  | _, _ => none
def insD : D → D → D → Option D
  | .list ds, .int z, d => if 0 ≤ z ∧ z < 2 ^ 62 ∧ szOk (ds.length + 1) = true then some (.list (ds.take z.toNat ++ [d] ++ ds.drop z.toNat)) else none
  | _, _, _ => none
def dputD (T : List D) : D → D → D → Option D
  | .dict kvs, k, d => (keyK T kvs k).bind fun q => if szOk (kvs.length + 1) then some (.dict (putD T kvs k q d)) else none
  | _, _, _ => none
def pappD : Od → Od → Option Od
  | .lst xs, u => if szOk (xs.length + 1) then some (.lst (xs ++ [u])) else none
  | _, _ => none
/-- the tree at a key is set, or put at the end -/
def pputD (T : List D) : Od → D → Od → Option Od
  | .dct ks xs, k, u => (kdOf T k).bind fun q => if szOk (ks.length + 1) then match ks.findIdx? fun k' => decide (kdOf T k' = some q) with
      | some j => some (.dct ks (xs.set j u))
      | none => some (.dct (ks ++ [k]) (xs ++ [u]))
    else none
  | _, _, _ => none
/-- a list's item is set -/
def psetD : Od → D → Od → Option Od
  | .lst xs, .int z, u => (ixN xs.length z).map fun j => .lst (xs.set j u)
  | _, _, _ => none
def pstoD (T : List D) (t : Od) (k : D) (u : Od) : Option Od := match t with
  | .lst _ => psetD t k u
  | _ => pputD T t k u
/-- what stands at a key, or a new tree that is put there: its number, and the tree -/
def sdD (T : List D) : Od → D → Od → Option (Nat × Od)
  | .dct ks xs, k, u => (kdOf T k).bind fun q => if szOk (ks.length + 1) then match ks.findIdx? fun k' => decide (kdOf T k' = some q) with
      | some j => some (j, .dct ks xs)
      | none => some (xs.length, .dct (ks ++ [k]) (xs ++ [u]))
    else none
  | _, _, _ => none
mutual
def evS (G : Gb) : St → En → Option Out
  | .asg p e, ρ => (ev G e ρ).bind fun d => (bindP p d ρ).map Out.nx
  | .new i r, ρ => (evR G r ρ).map fun s => .nx (ρ.set i s)
  | .par i j a b, ρ => (evR G a ρ).bind fun x => (evR G b ρ).map fun y => .nx ((ρ.set i x).set j y)
  | .par3 i j k a b c, ρ => (evR G a ρ).bind fun x => (evR G b ρ).bind fun y => (evR G c ρ).map fun z => .nx (((ρ.set i x).set j y).set k z)
  | .aug i o e, ρ => (ρ.get i).bind fun x => (ev G e ρ).bind fun y => (augD o x y).map fun z => .nx (ρ.set i (.fz z))
  | .app i e, ρ => (ρ.own i).bind fun x => (ev G e ρ).bind fun d => (appD x d).map fun z => .nx (ρ.set i (.ow z))
  | .ins i k e, ρ => (ρ.own i).bind fun x => (ev G k ρ).bind fun y => (ev G e ρ).bind fun d => (insD x y d).map fun z => .nx (ρ.set i (.ow z))
  | .put i k e, ρ => (ρ.own i).bind fun x => (ev G e ρ).bind fun d => (ev G k ρ).bind fun y => (dputD G.tups x y d).map fun z => .nx (ρ.set i (.ow z))
  | .ife c a b, ρ => (asB (ev G c ρ)).bind fun t => if t = true then evSs G a ρ else evSs G b ρ
  | .for_ p it body, ρ => (evI G it ρ).bind fun ds => forL (fun d ρ1 => (bindP p d ρ1).bind fun ρ2 => evSs G body ρ2) ds ρ
  | .whl c body, ρ => whL (fun ρ1 => asB (ev G c ρ1)) (fun ρ1 => evSs G body ρ1) wFuel ρ
  | .ret e, ρ => (ev G e ρ).map Out.rt
  | .retN, _ => some (.rt .none)
  | .ex e, ρ => (ev G e ρ).map fun _ => .nx ρ
  | .raise_, _ => none
  | .pass, ρ => some (.nx ρ)
  | .brk, ρ => some (.bk ρ)
  | .cont, ρ => some (.ct ρ)
  | .fz i s, ρ => evS G s (freeze ρ i)
  | .papp p e, ρ => (evP G p ρ).bind fun q => (ρ.sub q).bind fun t => (ev G e ρ).bind fun d => (pappD t (.fz d)).map fun u => .nx (ρ.putT q u)
  | .pput p k e, ρ => (ev G e ρ).bind fun d => (evP G p ρ).bind fun q => (ρ.sub q).bind fun t => (ev G k ρ).bind fun y => (pstoD G.tups t y (.fz d)).map fun u => .nx (ρ.putT q u)
  | .paug p k o e, ρ => (evP G p ρ).bind fun q => (ρ.sub q).bind fun t => (ev G k ρ).bind fun y => (t.pos G.tups y).bind fun j => (t.kids[j]?.bind Od.toF).bind fun x => (ev G e ρ).bind fun d => (augD o x d).bind fun z => (pstoD G.tups t y (.fz z)).map fun u => .nx (ρ.putT q u)
  | .sdapp p k e, ρ => (evP G p ρ).bind fun q => (ρ.sub q).bind fun t => (ev G k ρ).bind fun y => (sdD G.tups t y (.lst [])).bind fun r => (ev G e (ρ.putT q r.2)).bind fun d => (r.2.kids[r.1]?.bind fun w => pappD w (.fz d)).map fun w => .nx (ρ.putT q (r.2.setKid r.1 w))
  | .sdput p k k2 e, ρ => (ev G e ρ).bind fun d => (evP G p ρ).bind fun q => (ρ.sub q).bind fun t => (ev G k ρ).bind fun y => (sdD G.tups t y (.dct [] [])).bind fun r => (ev G k2 (ρ.putT q r.2)).bind fun y2 => (r.2.kids[r.1]?.bind fun w => pstoD G.tups w y2 (.fz d)).map fun w => .nx (ρ.putT q (r.2.setKid r.1 w))
def evSs (G : Gb) : Ss → En → Option Out
  | .nil, ρ => some (.nx ρ)
  | .cons s ss, ρ => (evS G s ρ).bind fun o => match o with
    | .nx ρ1 => evSs G ss ρ1
    | r => some r
end
/-- a def called -/
def run (G : Gb) (np nN : Nat) (body : Ss) (args : List D) : Option D :=
  if args.length = np then (evSs G body (args.map Sl.fz ++ List.replicate (nN - np) Sl.un)).bind fun o => match o with
    | .rt d => some d
    | .nx _ => some .none
    | _ => none
  else none
end PL


set_option Elab.async false
set_option linter.all false
set_option maxRecDepth 100000
/-! PLa: values of the heap and data; what holds of a frame; expressions' readings. -/
namespace PL
open PySem PySem.Spec PyProof.Rows L2

def keyD : Key → D
  | .inl i => .int i
  | .inr x => .str x
/-- a list that stays: frozen, or of the module's own -/
def FzL (K : PySem.W.Frag) (H : Hp) (a : Addr) (xs : List V) : Prop :=
  (∃ o, H a = some (.frz o (.lst xs))) ∨
    ∃ (its : Array Value) (n : Nat), K.lookup a = some { cls := .type "list", data := .seq its n } ∧ its.size ≤ sizeLine ∧ Vals xs its.toList
theorem FzL.sq {K : PySem.W.Frag} {H : Hp} {a : Addr} {xs : List V} (h : FzL K H a xs) : SqL K H a xs := by
  rcases h with ⟨o, h⟩ | ⟨its, n, h1, h2, h3⟩
  · exact .inl (.inr ⟨o, h⟩)
  · exact .inr ⟨_, its, n, h1, rfl, rfl, rfl, h2, h3⟩
/-- the program, its world, its classes -/
structure PrW where
  P : Program
  w : World
  cl : Str → Option Addr
/-- a dict, by its entries -/
def rawO (a : Addr) (es : Array DictEntry) : HO := .ext fun h => (a == sysModules) = false ∧ es.size ≤ sizeLine ∧ GD.RawD h a es
/-- a tuple: known to its object, or one of the module's; it bears no dict -/
def TpT (K : PySem.W.Frag) (H : Hp) (a : Addr) (xs : List V) : Prop := (∃ o, H a = some (.frz o (.tup xs)) ∧ o.dict = none) ∨
  ∃ (o : Obj) (its : Array Value) (n : Nat), K.lookup a = some o ∧ o.cls = .type "tuple" ∧ o.dict = none ∧ o.data = .seq its n ∧ its.size ≤ sizeLine ∧ Vals xs its.toList
theorem TpT.sq {K : PySem.W.Frag} {H : Hp} {a : Addr} {xs : List V} (h : TpT K H a xs) : SqT K H a xs := by
  rcases h with ⟨o, h, _⟩ | ⟨o, its, n, h1, h2, h3, h4, h5, h6⟩
  · exact .inl (.inr ⟨o, h⟩)
  · exact .inr ⟨o, its, n, h1, h2, h4, h5, h6⟩
/-- no two keys are alike -/
def NdK (ks : List D) : Prop := (ks.map (kdOf [])).Nodup
theorem kdOf_any (T T' : List D) (d : D) : kdOf T d = kdOf T' d := rfl
mutual
/-- v stands for the datum -/
def Rp (p : PrW) (K : PySem.W.Frag) (H : Hp) : D → V → Prop
  | .none, v => v = .non
  | .bool b, v => v = .bl b
  | .int i, v => v = .int i
  | .str x, v => v = .str x
  | .list ds, v => ∃ a xs, v = .ref a ∧ FzL K H a xs ∧ RpA p K H ds xs
  | .tuple ds, v => ∃ a xs, v = .ref a ∧ TpT K H a xs ∧ RpA p K H ds xs
  | .dict kvs, v => ∃ a, v = .ref a ∧ ((∃ o es, H a = some (.frz o (rawO a es)) ∧ RpE p K H kvs es.toList ∧ NdK (kvs.map (·.1))) ∨ ∃ o C dx fs, H a = some (.frz o (.ins C dx fs)) ∧ RpO p K H C fs kvs)
def RpA (p : PrW) (K : PySem.W.Frag) (H : Hp) : List D → List V → Prop
  | [], xs => xs = []
  | d :: ds, xs => ∃ v vs, xs = v :: vs ∧ Rp p K H d v ∧ RpA p K H ds vs
/-- the entries of a dict -/
def RpE (p : PrW) (K : PySem.W.Frag) (H : Hp) : List (D × D) → List DictEntry → Prop
  | [], l => l = []
  | (k, d) :: r, l => ∃ e l' u v q, l = e :: l' ∧ RelV u e.key ∧ Rp p K H k u ∧ kdOf [] k = some q ∧ e.hash = q.hash p.w ∧ RelV v e.val ∧ Rp p K H d v ∧ RpE p K H r l'
/-- the fields of an object -/
def RpF (p : PrW) (K : PySem.W.Frag) (H : Hp) : List (D × D) → List (Str × V) → Prop
  | [], l => l = []
  | (k, d) :: r, l => ∃ f v l', l = (f, v) :: l' ∧ k = .str f ∧ Rp p K H d v ∧ RpF p K H r l'
/-- an object: ahead of its fields a key that is none, and its class -/
def RpO (p : PrW) (K : PySem.W.Frag) (H : Hp) (C : Addr) (fs : List (Str × V)) : List (D × D) → Prop
  | [] => False
  | (k, c) :: r => k = .list [] ∧ (∃ x, c = .str x ∧ p.cl x = some C) ∧ RpF p K H r fs
end
/-- tuples and what is frozen stay -/
def Kp (H H' : Hp) : Prop := (∀ b xs, H b = some (.tup xs) → H' b = some (.tup xs)) ∧ ∀ b o u, H b = some (.frz o u) → H' b = some (.frz o u)
theorem _root_.L2.Same.kp {H H' : Hp} (s : Same H H') : Kp H H' := ⟨fun b xs h => s b _ h, fun b o u h => s b _ h⟩
theorem Kp.refl (H : Hp) : Kp H H := ⟨fun _ _ h => h, fun _ _ _ h => h⟩
theorem Kp.trans {H H1 H2 : Hp} (a : Kp H H1) (b : Kp H1 H2) : Kp H H2 := ⟨fun c xs h => b.1 c xs (a.1 c xs h), fun c o u h => b.2 c o u (a.2 c o u h)⟩
theorem Kp.sqT {K : PySem.W.Frag} {H H' : Hp} {a : Addr} {xs : List V} (k : Kp H H') (h : TpT K H a xs) : TpT K H' a xs := by
  rcases h with ⟨o, h, h2⟩ | h
  · exact .inl ⟨o, k.2 _ _ _ h, h2⟩
  · exact .inr h
theorem Kp.fzL {K : PySem.W.Frag} {H H' : Hp} {a : Addr} {xs : List V} (k : Kp H H') (h : FzL K H a xs) : FzL K H' a xs := by
  rcases h with ⟨o, h⟩ | h
  · exact .inl ⟨o, k.2 _ _ _ h⟩
  · exact .inr h
section
variable {p : PrW} {K : PySem.W.Frag} {H H' : Hp}
mutual
theorem Rp.keep (k : Kp H H') : ∀ (d : D) (v : V), Rp p K H d v → Rp p K H' d v
  | .none, _, h => by simpa only [Rp] using h
  | .bool _, _, h => by simpa only [Rp] using h
  | .int _, _, h => by simpa only [Rp] using h
  | .str _, _, h => by simpa only [Rp] using h
  | .list ds, _, h => by
    simp only [Rp] at h ⊢
    obtain ⟨a, xs, e, h1, h2⟩ := h
    exact ⟨a, xs, e, k.fzL h1, RpA.keep k ds xs h2⟩
  | .tuple ds, _, h => by
    simp only [Rp] at h ⊢
    obtain ⟨a, xs, e, h1, h2⟩ := h
    exact ⟨a, xs, e, k.sqT h1, RpA.keep k ds xs h2⟩
  | .dict kvs, _, h => by
    simp only [Rp] at h ⊢
    obtain ⟨a, e, h⟩ := h
    refine ⟨a, e, ?_⟩
    rcases h with ⟨o, es, h1, h2, h3⟩ | ⟨o, C, dx, fs, h1, h2⟩
    · exact .inl ⟨o, es, k.2 _ _ _ h1, RpE.keep k kvs _ h2, h3⟩
    · exact .inr ⟨o, C, dx, fs, k.2 _ _ _ h1, RpO.keep k C fs kvs h2⟩
theorem RpA.keep (k : Kp H H') : ∀ (ds : List D) (vs : List V), RpA p K H ds vs → RpA p K H' ds vs
  | [], _, h => by simpa only [RpA] using h
  | d :: ds, _, h => by
    simp only [RpA] at h ⊢
    obtain ⟨v, vs, e, h1, h2⟩ := h
    exact ⟨v, vs, e, Rp.keep k d v h1, RpA.keep k ds vs h2⟩
theorem RpE.keep (k : Kp H H') : ∀ (ds : List (D × D)) (l : List DictEntry), RpE p K H ds l → RpE p K H' ds l
  | [], _, h => by simpa only [RpE] using h
  | (q, d) :: ds, _, h => by
    simp only [RpE] at h ⊢
    obtain ⟨e, l', u, v, q', e1, e2, e3, e4, e5, e6, e7, e8⟩ := h
    exact ⟨e, l', u, v, q', e1, e2, Rp.keep k q u e3, e4, e5, e6, Rp.keep k d v e7, RpE.keep k ds l' e8⟩
theorem RpF.keep (k : Kp H H') : ∀ (ds : List (D × D)) (l : List (Str × V)), RpF p K H ds l → RpF p K H' ds l
  | [], _, h => by simpa only [RpF] using h
  | (q, d) :: ds, _, h => by
    simp only [RpF] at h ⊢
    obtain ⟨f, v, l', e1, e2, e3, e4⟩ := h
    exact ⟨f, v, l', e1, e2, Rp.keep k d v e3, RpF.keep k ds l' e4⟩
theorem RpO.keep (k : Kp H H') (C : Addr) (fs : List (Str × V)) : ∀ (ds : List (D × D)), RpO p K H C fs ds → RpO p K H' C fs ds
  | [], h => by simpa only [RpO] using h
  | (q, d) :: ds, h => by
    simp only [RpO] at h ⊢
    obtain ⟨e1, e2, e3⟩ := h
    exact ⟨e1, e2, RpF.keep k ds fs e3⟩
end
theorem RpA.len : ∀ {ds : List D} {vs : List V}, RpA p K H ds vs → vs.length = ds.length
  | [], _, h => by simp only [RpA] at h; subst h; rfl
  | d :: ds, _, h => by
    simp only [RpA] at h
    obtain ⟨v, vs, e, _, h2⟩ := h
    subst e
    simp [RpA.len h2]
theorem RpA.nil : RpA p K H [] [] := by simp only [RpA]
theorem RpA.cons {d : D} {v : V} {ds : List D} {vs : List V} (h : Rp p K H d v) (t : RpA p K H ds vs) : RpA p K H (d :: ds) (v :: vs) := by
  simp only [RpA]
  exact ⟨v, vs, rfl, h, t⟩
theorem RpA.get : ∀ {ds : List D} {vs : List V} {i : Nat} {d : D}, RpA p K H ds vs → ds[i]? = some d → ∃ v, vs[i]? = some v ∧ Rp p K H d v
  | [], _, _, _, _, e => by simp at e
  | d :: ds, _, 0, x, h, e => by
    simp only [RpA] at h
    obtain ⟨v, vs, e1, h1, _⟩ := h
    subst e1
    simp at e
    subst e
    exact ⟨v, rfl, h1⟩
  | d :: ds, _, i + 1, x, h, e => by
    simp only [RpA] at h
    obtain ⟨v, vs, e1, _, h2⟩ := h
    subst e1
    obtain ⟨u, e2, r⟩ := RpA.get (i := i) h2 (by simpa using e)
    exact ⟨u, by simpa using e2, r⟩
theorem RpA.app : ∀ {ds es : List D} {vs us : List V}, RpA p K H ds vs → RpA p K H es us → RpA p K H (ds ++ es) (vs ++ us)
  | [], _, _, _, h, h' => by simp only [RpA] at h; subst h; exact h'
  | d :: ds, _, _, _, h, h' => by
    simp only [RpA] at h
    obtain ⟨v, vs, e1, h1, h2⟩ := h
    subst e1
    exact .cons h1 (RpA.app h2 h')
theorem RpA.take : ∀ {ds : List D} {vs : List V} (n : Nat), RpA p K H ds vs → RpA p K H (ds.take n) (vs.take n)
  | _, _, 0, _ => by simp only [List.take_zero]; exact .nil
  | [], _, n + 1, h => by simp only [RpA] at h; subst h; exact .nil
  | d :: ds, _, n + 1, h => by
    simp only [RpA] at h
    obtain ⟨v, vs, e1, h1, h2⟩ := h
    subst e1
    simp only [List.take_succ_cons]
    exact .cons h1 (RpA.take n h2)
theorem RpA.drop : ∀ {ds : List D} {vs : List V} (n : Nat), RpA p K H ds vs → RpA p K H (ds.drop n) (vs.drop n)
  | _, _, 0, h => by simpa only [List.drop_zero] using h
  | [], _, n + 1, h => by simp only [RpA] at h; subst h; exact .nil
  | d :: ds, _, n + 1, h => by
    simp only [RpA] at h
    obtain ⟨v, vs, e1, h1, h2⟩ := h
    subst e1
    simp only [List.drop_succ_cons]
    exact RpA.drop n h2
theorem RpA.rev : ∀ {ds : List D} {vs : List V}, RpA p K H ds vs → RpA p K H ds.reverse vs.reverse
  | [], _, h => by simp only [RpA] at h; subst h; exact .nil
  | d :: ds, _, h => by
    simp only [RpA] at h
    obtain ⟨v, vs, e1, h1, h2⟩ := h
    subst e1
    rw [List.reverse_cons, List.reverse_cons]
    exact (RpA.rev h2).app (.cons h1 .nil)
theorem RpA.rep {ds : List D} {vs : List V} (h : RpA p K H ds vs) : ∀ k : Nat, RpA p K H (List.replicate k ds).flatten (List.replicate k vs).flatten
  | 0 => by simp only [List.replicate_zero, List.flatten_nil]; exact .nil
  | k + 1 => by
    simp only [List.replicate_succ, List.flatten_cons]
    exact h.app (RpA.rep h k)
theorem RpA.cut {ds : List D} {vs : List V} (h : RpA p K H ds vs) (lo hi : Option Int) : RpA p K H (cutD ds lo hi) (cutV vs lo hi) := by
  unfold cutD cutV
  rw [h.len]
  exact (h.drop _).take _
theorem RpA.ints : ∀ {ds : List D} {vs : List V} {ns : List Int}, RpA p K H ds vs → allInts ds = some ns → vs = ns.map V.int
  | [], _, _, h, e => by
    simp only [RpA] at h
    simp only [allInts] at e
    cases e
    subst h
    rfl
  | d :: ds, _, _, h, e => by
    simp only [RpA] at h
    obtain ⟨v, vs, e1, h1, h2⟩ := h
    cases d with
    | int a =>
      simp only [allInts, Option.map_eq_some_iff] at e
      obtain ⟨ms, e2, e3⟩ := e
      simp only [Rp] at h1
      subst e1 e3 h1
      rw [RpA.ints h2 e2]
      rfl
    | _ => simp [allInts] at e
theorem RpA.bools : ∀ {ds : List D} {vs : List V} {ns : List Bool}, RpA p K H ds vs → allBools ds = some ns → vs = ns.map V.bl
  | [], _, _, h, e => by
    simp only [RpA] at h
    simp only [allBools] at e
    cases e
    subst h
    rfl
  | d :: ds, _, _, h, e => by
    simp only [RpA] at h
    obtain ⟨v, vs, e1, h1, h2⟩ := h
    cases d with
    | bool a =>
      simp only [allBools, Option.map_eq_some_iff] at e
      obtain ⟨ms, e2, e3⟩ := e
      simp only [Rp] at h1
      subst e1 e3 h1
      rw [RpA.bools h2 e2]
      rfl
    | _ => simp [allBools] at e
/-! data without dicts, as the layer has it -/
mutual
theorem Rp.dp : ∀ (d : D) (v : V), Rp p K H d v → d.canLay0 = true → Dp K H v d
  | .none, _, h, _ => by simp only [Rp] at h; subst h; exact .non
  | .bool _, _, h, _ => by simp only [Rp] at h; subst h; exact .bl _
  | .int _, _, h, _ => by simp only [Rp] at h; subst h; exact .int _
  | .str _, _, h, _ => by simp only [Rp] at h; subst h; exact .str _
  | .list ds, _, h, c => by
    simp only [Rp] at h
    obtain ⟨a, xs, e, h1, h2⟩ := h
    subst e
    exact .lst h1.sq (RpA.dp ds xs h2 (by simpa only [PyData.canLay0] using c))
  | .tuple ds, _, h, c => by
    simp only [Rp] at h
    obtain ⟨a, xs, e, h1, h2⟩ := h
    subst e
    exact .tup h1.sq (RpA.dp ds xs h2 (by simpa only [PyData.canLay0] using c))
  | .dict kvs, _, _, c => by simp [PyData.canLay0] at c
theorem RpA.dp : ∀ (ds : List D) (vs : List V), RpA p K H ds vs → PyData.canLayAll0 ds = true → DpAll K H vs ds
  | [], _, h, _ => by simp only [RpA] at h; subst h; exact .nil
  | d :: ds, _, h, c => by
    simp only [RpA] at h
    obtain ⟨v, vs, e, h1, h2⟩ := h
    subst e
    simp only [PyData.canLayAll0, Bool.and_eq_true] at c
    exact .cons (Rp.dp d v h1 c.1) (RpA.dp ds vs h2 c.2)
end
end

end PL


set_option Elab.async false
set_option linter.all false
set_option maxRecDepth 100000
/-! PLaa: what a def owns, as a tree in the heap. -/
namespace PL
open PySem PySem.Spec PyProof.Rows L2
/-- the entries' keys -/
def KeyE (p : PrW) (K : PySem.W.Frag) (H : Hp) : List D → List DictEntry → Prop
  | [], l => l = []
  | k :: r, l => ∃ e l' u q, l = e :: l' ∧ RelV u e.key ∧ Rp p K H k u ∧ kdOf [] k = some q ∧ e.hash = q.hash p.w ∧ KeyE p K H r l'
/-- the entries' values -/
def ValE : List V → List DictEntry → Prop
  | [], l => l = []
  | v :: r, l => ∃ e l', l = e :: l' ∧ RelV v e.val ∧ ValE r l'
mutual
/-- v is the tree, its own things at F -/
def OwT (p : PrW) (K : PySem.W.Frag) (H : Hp) : Od → V → List Addr → Prop
  | .fz d, v, F => F = [] ∧ Rp p K H d v
  | .lst xs, v, F => ∃ a vs G, v = .ref a ∧ F = a :: G ∧ H a = some (.lst vs) ∧ OwA p K H xs vs G
  | .dct ks xs, v, F => ∃ a es vs G, v = .ref a ∧ F = a :: G ∧ H a = some (rawO a es) ∧ KeyE p K H ks es.toList ∧ NdK ks ∧ ValE vs es.toList ∧ OwA p K H xs vs G
  | .obj c ns xs, v, F => ∃ a C dx vs G, v = .ref a ∧ F = a :: G ∧ p.cl c = some C ∧ H a = some (.ins C dx (ns.zip vs)) ∧ ns.length = vs.length ∧ OwA p K H xs vs G
def OwA (p : PrW) (K : PySem.W.Frag) (H : Hp) : List Od → List V → List Addr → Prop
  | [], vs, F => vs = [] ∧ F = []
  | t :: ts, vs, F => ∃ v vs' F1 F2, vs = v :: vs' ∧ F = F1 ++ F2 ∧ OwT p K H t v F1 ∧ OwA p K H ts vs' F2
end
section
variable {p : PrW} {K : PySem.W.Frag} {H H' : Hp}
theorem KeyE.keep (k : Kp H H') : ∀ {ds : List D} {l : List DictEntry}, KeyE p K H ds l → KeyE p K H' ds l
  | [], _, h => h
  | d :: ds, _, h => by
    obtain ⟨e, l', u, q, e1, e2, e3, e4, e5, e6⟩ := h
    exact ⟨e, l', u, q, e1, e2, Rp.keep k d u e3, e4, e5, KeyE.keep k e6⟩
theorem KeyE.len : ∀ {ds : List D} {l : List DictEntry}, KeyE p K H ds l → l.length = ds.length
  | [], _, h => by
    have h : _ = [] := h
    subst h
    rfl
  | d :: ds, _, h => by
    obtain ⟨e, l', u, q, e1, _, _, _, _, e6⟩ := h
    subst e1
    simp [KeyE.len e6]
theorem ValE.len : ∀ {vs : List V} {l : List DictEntry}, ValE vs l → l.length = vs.length
  | [], _, h => by
    have h : _ = [] := h
    subst h
    rfl
  | v :: r, _, h => by
    obtain ⟨e, l', e1, _, e3⟩ := h
    subst e1
    simp [ValE.len e3]
mutual
/-- a tree stays where its own things and what is frozen stay -/
theorem OwT.frame (k : Kp H H') : ∀ (t : Od) (v : V) (F : List Addr), (∀ b ∈ F, ∀ o, H b = some o → H' b = some o) → OwT p K H t v F → OwT p K H' t v F
  | .fz d, v, F, _, h => by
    simp only [OwT] at h ⊢
    exact ⟨h.1, Rp.keep k d v h.2⟩
  | .lst xs, v, F, f, h => by
    simp only [OwT] at h ⊢
    obtain ⟨a, vs, G, e1, e2, e3, e4⟩ := h
    subst e2
    exact ⟨a, vs, G, e1, rfl, f a List.mem_cons_self _ e3, OwA.frame k xs vs G (fun b hb => f b (List.mem_cons_of_mem _ hb)) e4⟩
  | .dct ks xs, v, F, f, h => by
    simp only [OwT] at h ⊢
    obtain ⟨a, es, vs, G, e1, e2, e3, e4, e5, e6, e7⟩ := h
    subst e2
    exact ⟨a, es, vs, G, e1, rfl, f a List.mem_cons_self _ e3, e4.keep k, e5, e6, OwA.frame k xs vs G (fun b hb => f b (List.mem_cons_of_mem _ hb)) e7⟩
  | .obj c ns xs, v, F, f, h => by
    simp only [OwT] at h ⊢
    obtain ⟨a, C, dx, vs, G, e1, e2, e3, e4, e5, e6⟩ := h
    subst e2
    exact ⟨a, C, dx, vs, G, e1, rfl, e3, f a List.mem_cons_self _ e4, e5, OwA.frame k xs vs G (fun b hb => f b (List.mem_cons_of_mem _ hb)) e6⟩
theorem OwA.frame (k : Kp H H') : ∀ (ts : List Od) (vs : List V) (F : List Addr), (∀ b ∈ F, ∀ o, H b = some o → H' b = some o) → OwA p K H ts vs F → OwA p K H' ts vs F
  | [], vs, F, _, h => by simpa only [OwA] using h
  | t :: ts, vs, F, f, h => by
    simp only [OwA] at h ⊢
    obtain ⟨v, vs', F1, F2, e1, e2, e3, e4⟩ := h
    subst e2
    exact ⟨v, vs', F1, F2, e1, rfl, OwT.frame k t v F1 (fun b hb => f b (List.mem_append_left _ hb)) e3, OwA.frame k ts vs' F2 (fun b hb => f b (List.mem_append_right _ hb)) e4⟩
end
theorem OwT.same (s : Same H H') {t : Od} {v : V} {F : List Addr} (h : OwT p K H t v F) : OwT p K H' t v F := h.frame s.kp t v F fun b _ o e => s b o e
theorem OwA.same (s : Same H H') {t : List Od} {v : List V} {F : List Addr} (h : OwA p K H t v F) : OwA p K H' t v F := h.frame s.kp t v F fun b _ o e => s b o e
theorem OwA.len : ∀ {ts : List Od} {vs : List V} {F : List Addr}, OwA p K H ts vs F → vs.length = ts.length
  | [], _, _, h => by
    simp only [OwA] at h
    rw [h.1]
    rfl
  | t :: ts, _, _, h => by
    simp only [OwA] at h
    obtain ⟨v, vs', F1, F2, e1, _, _, e4⟩ := h
    subst e1
    simp [OwA.len e4]
/-- a tree's own things stand in the heap and may be written -/
theorem ow_mut : (∀ (t : Od) (v : V) (F : List Addr), OwT p K H t v F → ∀ b ∈ F, Mut (H b)) ∧ ∀ (ts : List Od) (vs : List V) (F : List Addr), OwA p K H ts vs F → ∀ b ∈ F, Mut (H b) := by
  have key : ∀ n : Nat, (∀ (t : Od) (v : V) (F : List Addr), sizeOf t < n → OwT p K H t v F → ∀ b ∈ F, Mut (H b)) ∧ ∀ (ts : List Od) (vs : List V) (F : List Addr), sizeOf ts < n → OwA p K H ts vs F → ∀ b ∈ F, Mut (H b) := by
    intro n
    induction n with
    | zero => exact ⟨fun _ _ _ z => absurd z (Nat.not_lt_zero _), fun _ _ _ z => absurd z (Nat.not_lt_zero _)⟩
    | succ n ih =>
      refine ⟨fun t v F hn h b hb => ?_, fun ts vs F hn h b hb => ?_⟩
      · cases t with
        | fz d =>
          simp only [OwT] at h
          rw [h.1] at hb
          cases hb
        | lst xs =>
          simp only [OwT] at h
          obtain ⟨a, ws, G, e1, e2, e3, e4⟩ := h
          rw [e2] at hb
          rcases List.mem_cons.mp hb with e | hb
          · rw [e, e3]; exact True.intro
          · exact ih.2 xs ws G (by simp at hn; omega) e4 b hb
        | dct ks xs =>
          simp only [OwT] at h
          obtain ⟨a, es, ws, G, e1, e2, e3, e4, e5, e6, e7⟩ := h
          rw [e2] at hb
          rcases List.mem_cons.mp hb with e | hb
          · rw [e, e3]; exact True.intro
          · exact ih.2 xs ws G (by simp at hn; omega) e7 b hb
        | obj c ns xs =>
          simp only [OwT] at h
          obtain ⟨a, C, dx, ws, G, e1, e2, e3, e4, e5, e6⟩ := h
          rw [e2] at hb
          rcases List.mem_cons.mp hb with e | hb
          · rw [e, e4]; exact True.intro
          · exact ih.2 xs ws G (by simp at hn; omega) e6 b hb
      · cases ts with
        | nil =>
          simp only [OwA] at h
          rw [h.2] at hb
          cases hb
        | cons t ts =>
          simp only [OwA] at h
          obtain ⟨v, vs', F1, F2, e1, e2, e3, e4⟩ := h
          rw [e2] at hb
          rcases List.mem_append.mp hb with hb | hb
          · exact ih.1 t v F1 (by simp at hn; omega) e3 b hb
          · exact ih.2 ts vs' F2 (by simp at hn; omega) e4 b hb
  exact ⟨fun t v F h => (key (sizeOf t + 1)).1 t v F (Nat.lt_succ_self _) h, fun ts vs F h => (key (sizeOf ts + 1)).2 ts vs F (Nat.lt_succ_self _) h⟩
theorem OwT.mut {t : Od} {v : V} {F : List Addr} (h : OwT p K H t v F) : ∀ b ∈ F, Mut (H b) := ow_mut.1 t v F h
theorem OwT.isat {t : Od} {v : V} {F : List Addr} (h : OwT p K H t v F) {b : Addr} (hb : b ∈ F) : ∃ o, H b = some o := by
  have m := h.mut b hb
  cases e : H b with
  | none => rw [e] at m; exact m.elim
  | some o => exact ⟨o, rfl⟩
/-- one of the trees in a row, and what may become of it -/
theorem OwA.focus : ∀ {ts : List Od} {vs : List V} {F : List Addr} {j : Nat} {t : Od}, OwA p K H ts vs F → ts[j]? = some t →
    ∃ v A F1 B, vs[j]? = some v ∧ F = A ++ F1 ++ B ∧ OwT p K H t v F1 ∧ ∀ (H' : Hp) (t' : Od) (v' : V) (F1' : List Addr), Kp H H' → (∀ b ∈ A ++ B, ∀ o, H b = some o → H' b = some o) → OwT p K H' t' v' F1' → OwA p K H' (ts.set j t') (vs.set j v') (A ++ F1' ++ B)
  | [], _, _, _, _, _, e => by simp at e
  | t :: ts, vs, F, 0, t0, h, e => by
    simp only [OwA] at h
    obtain ⟨v, vs', F1, F2, e1, e2, e3, e4⟩ := h
    subst e1 e2
    simp only [List.getElem?_cons_zero, Option.some.injEq] at e
    subst e
    refine ⟨v, [], F1, F2, rfl, by simp, e3, fun H' t' v' F1' k f h' => ?_⟩
    simp only [List.set_cons_zero, List.nil_append, OwA]
    exact ⟨v', vs', F1', F2, rfl, rfl, h', OwA.frame k ts vs' F2 (fun b hb => f b (by simpa using hb)) e4⟩
  | t :: ts, vs, F, j + 1, t0, h, e => by
    simp only [OwA] at h
    obtain ⟨v, vs', F1, F2, e1, e2, e3, e4⟩ := h
    subst e1 e2
    simp only [List.getElem?_cons_succ] at e
    obtain ⟨w, A, G1, B, g1, g2, g3, g4⟩ := OwA.focus e4 e
    subst g2
    refine ⟨w, F1 ++ A, G1, B, by simpa using g1, by simp, g3, fun H' t' v' F1' k f h' => ?_⟩
    simp only [List.set_cons_succ, OwA]
    refine ⟨v, _, F1, A ++ F1' ++ B, rfl, by simp, OwT.frame k t v F1 (fun b hb => f b (by simp [hb])) e3, g4 H' t' v' F1' k (fun b hb => f b ?_) h'⟩
    rcases List.mem_append.mp hb with hb | hb <;> simp [hb]
theorem OwA.snoc : ∀ {ts : List Od} {vs : List V} {F G : List Addr} {t : Od} {v : V}, OwA p K H ts vs F → OwT p K H t v G → OwA p K H (ts ++ [t]) (vs ++ [v]) (F ++ G)
  | [], _, _, G, t, v, h, ht => by
    simp only [OwA] at h
    obtain ⟨e1, e2⟩ := h
    subst e1 e2
    simp only [List.nil_append, OwA]
    exact ⟨v, [], G, [], rfl, by simp, ht, rfl, rfl⟩
  | u :: ts, _, _, G, t, v, h, ht => by
    simp only [OwA] at h
    obtain ⟨w, vs', F1, F2, e1, e2, e3, e4⟩ := h
    subst e1 e2
    simp only [List.cons_append, OwA]
    exact ⟨w, _, F1, F2 ++ G, rfl, by simp, e3, OwA.snoc e4 ht⟩
end
end PL


set_option Elab.async false
set_option linter.all false
set_option maxRecDepth 100000
/-! PLab: a def's slots; a place in a tree; readings. -/
namespace PL
open PySem PySem.Spec PyProof.Rows L2
/-- what a mutable local holds -/
def Ow (p : PrW) (K : PySem.W.Frag) (H : Hp) (d : D) (a : Addr) : Prop := match d with
  | .list ds => ∃ xs, H a = some (.lst xs) ∧ RpA p K H ds xs
  | .dict kvs => ∃ es, H a = some (rawO a es) ∧ RpE p K H kvs es.toList ∧ NdK (kvs.map (·.1))
  | _ => False
def Sl.own : Sl → Bool
  | .ow _ => true
  | .tr _ => true
  | _ => false
/-- an owned slot's content, and its things -/
def SlT (p : PrW) (K : PySem.W.Frag) (H : Hp) : Sl → V → List Addr → Prop
  | .ow d, v, F => ∃ a, v = .ref a ∧ F = [a] ∧ Ow p K H d a
  | .tr t, v, F => OwT p K H t v F
  | _, _, _ => False
def SlOk (p : PrW) (K : PySem.W.Frag) (H : Hp) : Sl → Option V → Prop
  | .un, _ => True
  | .fz d, o => ∃ v, o = some v ∧ Rp p K H d v
  | .ow d, o => ∃ a, o = some (.ref a) ∧ Ow p K H d a
  | .tr t, o => ∃ v F, o = some v ∧ OwT p K H t v F
structure EnvOk (p : PrW) (K : PySem.W.Frag) (H : Hp) (ρ : En) (σ : L2.St) : Prop where
  len : ρ.length = σ.length
  at_ : ∀ (i : Nat) (s : Sl), ρ[i]? = some s → ∃ o : Option V, σ[i]? = some o ∧ SlOk p K H s o
section
variable {p : PrW} {K : PySem.W.Frag} {H H' : Hp}
theorem Ow.frame (k : Kp H H') {d : D} {a : Addr} (f : ∀ o, H a = some o → H' a = some o) (h : Ow p K H d a) : Ow p K H' d a := by
  cases d with
  | list ds =>
    obtain ⟨xs, h1, h2⟩ := h
    exact ⟨xs, f _ h1, RpA.keep k _ _ h2⟩
  | dict kvs =>
    obtain ⟨es, h1, h2, h3⟩ := h
    exact ⟨es, f _ h1, RpE.keep k _ _ h2, h3⟩
  | _ => exact h.elim
theorem Ow.same (s : Same H H') {d : D} {a : Addr} (h : Ow p K H d a) : Ow p K H' d a := h.frame s.kp fun o e => s _ _ e
/-- what an owned slot holds stands in the heap -/
theorem ow_some {d : D} {a : Addr} (h : Ow p K H d a) : ∃ o, H a = some o ∧ Mut (some o) := by
  cases d with
  | list ds => obtain ⟨xs, h1, _⟩ := h; exact ⟨_, h1, True.intro⟩
  | dict kvs => obtain ⟨es, h1, _⟩ := h; exact ⟨_, h1, True.intro⟩
  | _ => exact h.elim
theorem SlT.frame (k : Kp H H') {s : Sl} {v : V} {F : List Addr} (f : ∀ b ∈ F, ∀ o, H b = some o → H' b = some o) (h : SlT p K H s v F) : SlT p K H' s v F := by
  cases s with
  | ow d =>
    obtain ⟨a, e1, e2, h1⟩ := h
    subst e2
    exact ⟨a, e1, rfl, h1.frame k (f a List.mem_cons_self)⟩
  | tr t => exact OwT.frame k t v F f h
  | _ => exact h.elim
theorem SlT.mut {s : Sl} {v : V} {F : List Addr} (h : SlT p K H s v F) : ∀ b ∈ F, Mut (H b) := by
  cases s with
  | ow d =>
    obtain ⟨a, e1, e2, h1⟩ := h
    subst e2
    intro b hb
    obtain ⟨o, h2, m⟩ := ow_some h1
    have e : b = a := by simpa using hb
    rw [e, h2]
    exact m
  | tr t => exact OwT.mut h
  | _ => exact h.elim
theorem SlT.ok {s : Sl} {v : V} {F : List Addr} (h : SlT p K H s v F) : SlOk p K H s (some v) := by
  cases s with
  | ow d =>
    obtain ⟨a, e1, e2, h1⟩ := h
    subst e1
    exact ⟨a, rfl, h1⟩
  | tr t => exact ⟨v, F, rfl, h⟩
  | _ => exact h.elim
theorem SlOk.same (s : Same H H') {sl : Sl} {o : Option V} (h : SlOk p K H sl o) : SlOk p K H' sl o := by
  cases sl with
  | un => trivial
  | fz d =>
    obtain ⟨v, h3, h4⟩ := h
    exact ⟨v, h3, Rp.keep s.kp _ _ h4⟩
  | ow d =>
    obtain ⟨a, h3, h4⟩ := h
    exact ⟨a, h3, h4.same s⟩
  | tr t =>
    obtain ⟨v, F, h3, h4⟩ := h
    exact ⟨v, F, h3, h4.same s⟩
theorem EnvOk.same {ρ : En} {σ : L2.St} (E : EnvOk p K H ρ σ) (s : Same H H') : EnvOk p K H' ρ σ :=
  ⟨E.len, fun i sl e => let ⟨o, h1, h2⟩ := E.at_ i sl e; ⟨o, h1, h2.same s⟩⟩
theorem EnvOk.get {ρ : En} {σ : L2.St} (E : EnvOk p K H ρ σ) {i : Nat} {d : D} (h : ρ.get i = some d) : ∃ v, σ[i]? = some (some v) ∧ Rp p K H d v := by
  unfold En.get at h
  split at h
  · rename_i d' e
    cases h
    obtain ⟨o, h1, v, h2, h3⟩ := E.at_ i _ e
    subst h2
    exact ⟨v, h1, h3⟩
  · cases h
theorem EnvOk.own {ρ : En} {σ : L2.St} (E : EnvOk p K H ρ σ) {i : Nat} {d : D} (h : ρ.own i = some d) : ∃ a, σ[i]? = some (some (.ref a)) ∧ Ow p K H d a := by
  unfold En.own at h
  split at h
  · rename_i d' e
    cases h
    obtain ⟨o, h1, v, h2, h3⟩ := E.at_ i _ e
    subst h2
    exact ⟨v, h1, h3⟩
  · cases h
theorem EnvOk.put {ρ : En} {σ : L2.St} (E : EnvOk p K H ρ σ) {i : Nat} {s : Sl} {o : Option V} (h : SlOk p K H s o) : EnvOk p K H (ρ.set i s) (σ.set i o) := by
  refine ⟨by simp [E.len], fun j sl e => ?_⟩
  by_cases hj : i = j
  · subst hj
    by_cases hi : i < ρ.length
    · rw [List.getElem?_set_self hi] at e
      cases e
      exact ⟨o, by rw [List.getElem?_set_self (by rw [← E.len]; exact hi)], h⟩
    · rw [List.getElem?_eq_none (by simpa using hi)] at e
      cases e
  · rw [List.getElem?_set_ne hj] at e
    obtain ⟨o', h1, h2⟩ := E.at_ j sl e
    exact ⟨o', by rw [List.getElem?_set_ne hj]; exact h1, h2⟩
theorem EnvOk.set {ρ : En} {σ : L2.St} (E : EnvOk p K H ρ σ) {i : Nat} {d : D} {v : V} (h : Rp p K H d v) : EnvOk p K H (ρ.set i (.fz d)) (σ.set i (some v)) := E.put ⟨v, rfl, h⟩
/-- a tree's place: v stands there, and what may become of it -/
structure Foc (p : PrW) (K : PySem.W.Frag) (H : Hp) (t0 : Od) (v0 : V) (F : List Addr) (π : List Nat) (t : Od) (v : V) : Prop where
  it : ∃ A F1 B, F = A ++ F1 ++ B ∧ OwT p K H t v F1 ∧ ∀ (H' : Hp) (t' : Od) (F1' : List Addr), Kp H H' → (∀ b ∈ A ++ B, ∀ o, H b = some o → H' b = some o) → OwT p K H' t' v F1' → OwT p K H' (t0.put_ π t') v0 (A ++ F1' ++ B)
theorem Foc.root {t0 : Od} {v0 : V} {F : List Addr} (h : OwT p K H t0 v0 F) : Foc p K H t0 v0 F [] t0 v0 :=
  ⟨[], F, [], by simp, h, fun H' t' F1' _ _ h' => by simpa [Od.put_] using h'⟩
theorem Foc.same {t0 t : Od} {v0 v : V} {F : List Addr} {π : List Nat} (s : Same H H') (h : Foc p K H t0 v0 F π t v) : Foc p K H' t0 v0 F π t v := by
  obtain ⟨A, F1, B, e, h1, h2⟩ := h.it
  exact ⟨A, F1, B, e, h1.same s, fun H2 t' F1' k f h' => h2 H2 t' F1' (s.kp.trans k) (fun b hb o eb => f b hb o (s b o eb)) h'⟩
theorem put_snoc : ∀ (t0 : Od) (π : List Nat) (t : Od) (j : Nat) (u : Od), t0.at_ π = some t → (∃ w, t.kids[j]? = some w) → t0.put_ (π ++ [j]) u = t0.put_ π (t.setKid j u)
  | t0, [], t, j, u, h, ⟨w, hw⟩ => by
    simp only [Od.at_, Option.some.injEq] at h
    subst h
    simp only [List.nil_append, Od.put_, hw]
  | t0, i :: π, t, j, u, h, hw => by
    simp only [Od.at_] at h
    obtain ⟨w', e1, e2⟩ := Option.bind_eq_some_iff.mp h
    simp only [List.cons_append, Od.put_, e1]
    rw [put_snoc w' π t j u e2 hw]
theorem at_snoc : ∀ (t0 : Od) (π : List Nat) (t : Od) (j : Nat), t0.at_ π = some t → t0.at_ (π ++ [j]) = t.kids[j]?
  | t0, [], t, j, h => by
    simp only [Od.at_, Option.some.injEq] at h
    subst h
    simp only [List.nil_append, Od.at_]
    cases t0.kids[j]? <;> simp [Od.at_]
  | t0, i :: π, t, j, h => by
    simp only [Od.at_] at h
    obtain ⟨w', e1, e2⟩ := Option.bind_eq_some_iff.mp h
    simp only [List.cons_append, Od.at_, e1, Option.bind_some]
    exact at_snoc w' π t j e2
/-- a tree's parts: its own thing, and its kids -/
theorem OwT.kid {t : Od} {v : V} {F : List Addr} {j : Nat} {u : Od} (h : OwT p K H t v F) (hj : t.kids[j]? = some u) : ∃ a G vs, v = .ref a ∧ F = a :: G ∧ OwA p K H t.kids vs G ∧
    (∀ (H' : Hp) (u' : Od) (w : V) (G' : List Addr), Kp H H' → (∀ o, H a = some o → H' a = some o) → vs[j]? = some w → OwA p K H' (t.kids.set j u') vs G' → OwT p K H' (t.setKid j u') v (a :: G')) ∧
    ((∃ xs, t = .lst xs ∧ H a = some (.lst vs)) ∨ (∃ ks xs es, t = .dct ks xs ∧ H a = some (rawO a es) ∧ KeyE p K H ks es.toList ∧ NdK ks ∧ ValE vs es.toList) ∨ ∃ c ns xs C dx, t = .obj c ns xs ∧ p.cl c = some C ∧ H a = some (.ins C dx (ns.zip vs)) ∧ ns.length = vs.length) := by
  cases t with
  | fz d => simp [Od.kids] at hj
  | lst xs =>
    simp only [OwT] at h
    obtain ⟨a, vs, G, e1, e2, e3, e4⟩ := h
    refine ⟨a, G, vs, e1, e2, e4, fun H' u' w G' k f hw h' => ?_, .inl ⟨xs, rfl, e3⟩⟩
    simp only [Od.setKid, OwT]
    exact ⟨a, vs, G', e1, rfl, f _ e3, h'⟩
  | dct ks xs =>
    simp only [OwT] at h
    obtain ⟨a, es, vs, G, e1, e2, e3, e4, e5, e6, e7⟩ := h
    refine ⟨a, G, vs, e1, e2, e7, fun H' u' w G' k f hw h' => ?_, .inr (.inl ⟨ks, xs, es, rfl, e3, e4, e5, e6⟩)⟩
    simp only [Od.setKid, OwT]
    exact ⟨a, es, vs, G', e1, rfl, f _ e3, e4.keep k, e5, e6, h'⟩
  | obj c ns xs =>
    simp only [OwT] at h
    obtain ⟨a, C, dx, vs, G, e1, e2, e3, e4, e5, e6⟩ := h
    refine ⟨a, G, vs, e1, e2, e6, fun H' u' w G' k f hw h' => ?_, .inr (.inr ⟨c, ns, xs, C, dx, rfl, e3, e4, e5⟩)⟩
    simp only [Od.setKid, OwT]
    exact ⟨a, C, dx, vs, G', e1, rfl, e3, f _ e4, e5, h'⟩
/-- one step further -/
theorem Foc.step {t0 t u : Od} {v0 v : V} {F : List Addr} {π : List Nat} {j : Nat} (h : Foc p K H t0 v0 F π t v) (ht : t0.at_ π = some t) (hj : t.kids[j]? = some u) :
    ∃ a vs w, v = .ref a ∧ vs[j]? = some w ∧ vs.length = t.kids.length ∧ Foc p K H t0 v0 F (π ++ [j]) u w ∧
    ((∃ xs, t = .lst xs ∧ H a = some (.lst vs)) ∨ (∃ ks xs es, t = .dct ks xs ∧ H a = some (rawO a es) ∧ KeyE p K H ks es.toList ∧ NdK ks ∧ ValE vs es.toList) ∨ ∃ c ns xs C dx, t = .obj c ns xs ∧ p.cl c = some C ∧ H a = some (.ins C dx (ns.zip vs)) ∧ ns.length = vs.length) := by
  obtain ⟨A, F1, B, e, h1, h2⟩ := h.it
  obtain ⟨a, G, vs, ev, eF, hA, hset, hk⟩ := h1.kid hj
  obtain ⟨w, A2, F2, B2, g1, g2, g3, g4⟩ := hA.focus hj
  refine ⟨a, vs, w, ev, g1, hA.len, ⟨A ++ a :: A2, F2, B2 ++ B, ?_, g3, fun H' t' F' k f h' => ?_⟩, hk⟩
  · rw [e, eF, g2]; simp
  · rw [put_snoc t0 π t j t' ht ⟨u, hj⟩]
    have z := g4 H' t' w F' k (fun b hb => f b (by rcases List.mem_append.mp hb with hb | hb <;> simp [hb])) h'
    have ew : vs.set j w = vs := by
      obtain ⟨hl, e9⟩ := List.getElem?_eq_some_iff.mp g1
      rw [← e9]
      exact List.set_getElem_self hl
    rw [ew] at z
    have y := hset H' t' w _ k (f a (by simp)) g1 z
    have x := h2 H' (t.setKid j t') _ k (fun b hb => f b (by rcases List.mem_append.mp hb with hb | hb <;> simp [hb])) y
    simpa using x
end
theorem EnvOk.wipe {p : PrW} {K : PySem.W.Frag} {H : Hp} {ρ : En} {σ : L2.St} (E : EnvOk p K H ρ σ) : ∀ vs : List Nat, EnvOk p K H (wipeE ρ vs) (L2.wipe σ vs)
  | [] => E
  | v :: vs => by
    have E1 := EnvOk.wipe E vs
    refine ⟨by simp [wipeE, L2.wipe, E1.len], fun j sl e => ?_⟩
    unfold wipeE at e
    unfold L2.wipe
    by_cases hj : v = j
    · subst hj
      by_cases hi : v < (wipeE ρ vs).length
      · rw [List.getElem?_set_self hi] at e
        cases e
        exact ⟨none, by rw [List.getElem?_set_self (by rw [← E1.len]; exact hi)], trivial⟩
      · rw [List.getElem?_eq_none (by simpa using hi)] at e
        cases e
    · rw [List.getElem?_set_ne hj] at e
      obtain ⟨o, h1, h2⟩ := E1.at_ j sl e
      exact ⟨o, by rw [List.getElem?_set_ne hj]; exact h1, h2⟩

/-! ### readings -/
abbrev RE (α : Type) := En → Option α
def tE (p : PrW) (K : PySem.W.Frag) (f : RE D) : TE := fun σ H Q => ∃ ρ d, EnvOk p K H ρ σ ∧ f ρ = some d ∧ ∀ v H', Same H H' → Rp p K H' d v → Q v H'
def tT (p : PrW) (K : PySem.W.Frag) (f : RE Bool) : TT := fun σ H Q => ∃ ρ b, EnvOk p K H ρ σ ∧ f ρ = some b ∧ ∀ H', Same H H' → Q b H'
def tA (p : PrW) (K : PySem.W.Frag) (f : RE (List D)) : TA := fun σ H Q => ∃ ρ ds, EnvOk p K H ρ σ ∧ f ρ = some ds ∧ ∀ vs H', Same H H' → RpA p K H' ds vs → Q vs H'
section
variable {X : Cx} {e : Expr}
theorem PEwk {t t' : TE} (h : PE X e t) (w : ∀ σ H Q, t' σ H Q → t σ H Q) : PE X e t' := ⟨fun pins s σ H Q I q => h.run pins s σ H Q I (w σ H Q q)⟩
theorem PTwk {t t' : TT} (h : PT X e t) (w : ∀ σ H Q, t' σ H Q → t σ H Q) : PT X e t' := ⟨fun pins s σ H Q I q => h.run pins s σ H Q I (w σ H Q q)⟩
theorem PWwk {t t' : TT} (h : L2.PW X e t) (w : ∀ σ H Q, t' σ H Q → t σ H Q) : L2.PW X e t' := ⟨fun wh pins s σ H Q I q => h.run wh pins s σ H Q I (w σ H Q q)⟩
theorem PAwk {es : List Expr} {t t' : TA} (h : PA X es t) (w : ∀ σ H Q, t' σ H Q → t σ H Q) : PA X es t' := ⟨fun pos pins s σ H Q I q => h.run pos pins s σ H Q I (w σ H Q q)⟩
theorem PSwk {st : Stmt} {t t' : TS} (h : PS X st t) (w : ∀ D σ H, t' D σ H → t D σ H) : PS X st t' := ⟨fun pins s σ H D I q => h.run pins s σ H D I (w D σ H q)⟩
theorem PSswk {st : List Stmt} {t t' : TS} (h : PSs X st t) (w : ∀ D σ H, t' D σ H → t D σ H) : PSs X st t' := ⟨fun pins s σ H D I q => h.run pins s σ H D I (w D σ H q)⟩
theorem PIwk {tg : Expr} {t t' : TI} (h : PI X tg e t) (w : ∀ σ H Q, t' σ H Q → t σ H Q) : PI X tg e t' := ⟨fun pins s σ H Q I q => h.run pins s σ H Q I (w σ H Q q)⟩
theorem PGwk {t t' : TG} (h : PG X e t) (w : ∀ v σ H Q, t' v σ H Q → t v σ H Q) : PG X e t' := ⟨fun pins s σ H v u Q I r q => h.run pins s σ H v u Q I r (w v σ H Q q)⟩
/-- a new list or dict is frozen at once -/
theorem EPseal {pins : List (Addr × Obj)} {σ : L2.St} {Q : VK} {u : Value} {s : Shared} (h : EP X pins σ (fun v H' => ∃ p o, v = .ref p ∧ H' p = some o ∧ Mut (some o) ∧ ∀ od, Q v (upd H' p (.frz od o))) u s) : EP X pins σ Q u s := by
  obtain ⟨v, H', I, r, p, o, ev, hp, mu, q⟩ := h
  obtain ⟨od, I2⟩ := I.lock hp mu
  exact ⟨v, _, I2, r, q od⟩
theorem same_new {H : Hp} {p : Addr} {o : HO} (h : H p = none) : Same H (upd H p o) := fun b u e => by
  rw [upd_ne (ne_of_none e h)]
  exact e
theorem same_new2 {H : Hp} {p : Addr} {o u : HO} (h : H p = none) : Same H (upd (upd H p o) p u) := by
  rw [upd_upd]
  exact same_new h
end
end PL


set_option Elab.async false
set_option linter.all false
set_option maxRecDepth 100000
/-! PLb: operations by values. -/
namespace PL
open PySem PySem.Spec PyProof.Rows L2

/-- the classes that the module's names tell -/
def clOf (mg : Str → Option Value) (x : Str) : Option Addr := match mg x with
  | some (.ref a) => some a
  | _ => none
abbrev pX (X : Cx) : PrW := ⟨X.prog, X.w, clOf X.mg⟩
structure Ctx (X : Cx) : Prop where
  calm : X.calm = true
  nd : X.N.Nodup
  hu : X.A.units + 70 < cLine

/-- a result: what stands for r may be handed on -/
def Give (p : PrW) (K : PySem.W.Frag) (H : Hp) (r : D) (Q : VK) : Prop := ∀ v H', Same H H' → Rp p K H' r v → Q v H'
def rD (p : PrW) (K : PySem.W.Frag) (f : D → D → Option D) : R2 := fun x y H Q => ∃ d e r, Rp p K H d x ∧ Rp p K H e y ∧ f d e = some r ∧ Give p K H r Q
def rD1 (p : PrW) (K : PySem.W.Frag) (f : D → Option D) : V → Hp → VK → Prop := fun x H Q => ∃ d r, Rp p K H d x ∧ f d = some r ∧ Give p K H r Q
def rDs (p : PrW) (K : PySem.W.Frag) (f : List D → Option D) : List V → Hp → VK → Prop := fun xs H Q => ∃ ds r, RpA p K H ds xs ∧ f ds = some r ∧ Give p K H r Q
theorem Give.int {p : PrW} {K : PySem.W.Frag} {H : Hp} {i : Int} {Q : VK} (g : Give p K H (.int i) Q) : Q (.int i) H := g _ H (Same.refl H) (by simp only [Rp])
theorem Give.bool {p : PrW} {K : PySem.W.Frag} {H : Hp} {i : Bool} {Q : VK} (g : Give p K H (.bool i) Q) : Q (.bl i) H := g _ H (Same.refl H) (by simp only [Rp])
/-- a new tuple is frozen at once -/
abbrev tupO (od : Obj) (xs : List V) : HO := .frz od (.tup xs)
theorem Give.tup {p : PrW} {K : PySem.W.Frag} {H : Hp} {ds : List D} {xs : List V} {Q : VK} (g : Give p K H (.tuple ds) Q) (r : RpA p K H ds xs) : ∀ q od, od.dict = none → H q = none → Q (.ref q) (upd H q (tupO od xs)) := fun q od ho hq =>
  g _ _ (same_new hq) (by
    simp only [Rp]
    exact ⟨q, xs, rfl, .inl ⟨od, upd_same, ho⟩, RpA.keep (same_new hq).kp _ _ r⟩)
/-- a new list, frozen -/
theorem Give.lst {p : PrW} {K : PySem.W.Frag} {H : Hp} {ds : List D} {xs : List V} {Q : VK} (g : Give p K H (.list ds) Q) (r : RpA p K H ds xs) : ∀ q od, H q = none → Q (.ref q) (upd H q (.frz od (.lst xs))) := fun q od hq =>
  g _ _ (same_new hq) (by
    simp only [Rp]
    exact ⟨q, xs, rfl, .inl ⟨od, upd_same⟩, RpA.keep (same_new hq).kp _ _ r⟩)
section
variable {X : Cx}
/-- behind a rule that makes a new list -/
theorem sealL {pins : List (Addr × Obj)} {σ : L2.St} {H : Hp} {xs : List V} {Q : VK} {u : Value} {s : Shared} (q : ∀ p od, H p = none → Q (.ref p) (upd H p (.frz od (.lst xs))))
    (h : EP X pins σ (fun v H' => ∃ p, v = .ref p ∧ H p = none ∧ H' = upd H p (.lst xs)) u s) : EP X pins σ Q u s := by
  obtain ⟨v, H', I, r, p, ev, hp, e⟩ := h
  subst e
  refine EPseal ⟨v, _, I, r, p, .lst xs, ev, upd_same, True.intro, fun od => ?_⟩
  rw [ev, upd_upd]
  exact q p od hp
theorem sealD {pins : List (Addr × Obj)} {σ : L2.St} {H : Hp} {o : HO} {Q : VK} {u : Value} {s : Shared} (mu : Mut (some o)) (q : ∀ p od, H p = none → Q (.ref p) (upd H p (.frz od o)))
    (h : EP X pins σ (fun v H' => ∃ p, v = .ref p ∧ H p = none ∧ H' = upd H p o) u s) : EP X pins σ Q u s := by
  obtain ⟨v, H', I, r, p, ev, hp, e⟩ := h
  subst e
  refine EPseal ⟨v, _, I, r, p, o, ev, upd_same, mu, fun od => ?_⟩
  rw [ev, upd_upd]
  exact q p od hp

/-! ### lists that stay: +, * -/
theorem FzL.exact {K : PySem.W.Frag} {H : Hp} {a : Addr} {xs : List V} {pins : List (Addr × Obj)} {σ : L2.St} {s : Shared} (I : Inv X pins σ H s) (h : FzL X.K H a xs) :
    ∃ (its : List Value) (n : Nat), Vals xs its ∧ xs.length = its.length ∧ xs.length ≤ sizeLine ∧ s.heap.get? a = some { cls := .type "list", data := .seq its.toArray n } := by
  rcases h with ⟨o, h⟩ | ⟨its, n, h1, h2, h3⟩
  · obtain ⟨_, z, its, n, r, e⟩ := (show ObjOk X.prog X.w H s.heap a (.frz o (.lst xs)) from I.hok a _ h)
    exact ⟨its, n, r, r.length, z, e⟩
  · have e := h3.length
    simp only [Array.length_toList] at e
    exact ⟨its.toList, n, h3, by simpa using h3.length, by omega, by simpa using I.kIn a _ h1⟩
/-- xs + ys of lists that stay -/
theorem op_catF : OpR X (binaryOp .Add) (fun x y H Q => ∃ l b xs zs, x = .ref l ∧ y = .ref b ∧ FzL X.K H l xs ∧ FzL X.K H b zs ∧ xs.length + zs.length ≤ sizeLine ∧ ∀ p, H p = none → Q (.ref p) (upd H p (.lst (xs ++ zs)))) := by
  intro pins s σ H x y v u Q I rx ry h
  obtain ⟨l, b, xs, zs, rfl, rfl, h1, h2, hz, q⟩ := h
  cases rx
  cases ry
  obtain ⟨its, n, r, hl, _, e⟩ := h1.exact (K := X.K) I
  obtain ⟨its2, n2, r2, hl2, _, e2⟩ := h2.exact (K := X.K) I
  refine PySem.P.add_list e e2 ?_ (by simp only [List.size_toArray]; omega)
  rw [show its.toArray ++ its2.toArray = (its ++ its2).toArray by simp]
  exact ⟨.ref s.heap.objs.size, _, I.lnew (t' := s.toks) (r.append r2) (by rw [List.length_append]; omega), rfl, q _ I.fresh⟩
/-- xs * k of a list that stays -/
theorem op_repF : OpR X (binaryOp .Mult) (fun x y H Q => ∃ l k xs, x = .ref l ∧ y = .int k ∧ FzL X.K H l xs ∧ 0 ≤ k ∧ k < 2 ^ 63 ∧ xs.length * k.toNat ≤ sizeLine ∧ ∀ p, H p = none → Q (.ref p) (upd H p (.lst (List.replicate k.toNat xs).flatten))) := by
  intro pins s σ H x y v u Q I rx ry h
  obtain ⟨l, k, xs, rfl, rfl, h1, k1, k2, hz, q⟩ := h
  cases rx
  obtain ⟨t, rfl⟩ := ry
  obtain ⟨its, n, r, hl, _, e⟩ := h1.exact (K := X.K) I
  have c2 : Builtin.List.listTooLong (its.toArray.size * k.toNat) = false := notLongL (by rw [List.size_toArray, ← hl]; exact hz)
  have c1 : ¬ its.toArray.size * k.toNat > (2 ^ 63 - 1) / 8 := by
    have z : its.toArray.size * k.toNat ≤ sizeLine := by rw [List.size_toArray, ← hl]; exact hz
    have z2 : (sizeLine : Nat) ≤ (2 ^ 63 - 1) / 8 := by decide
    omega
  have c0 : ¬ (!Builtin.List.listFitsIndex k) = true := by
    rw [fitsIndex_both (by omega) k2]
    exact Bool.false_ne_true
  have new : List.foldl (fun x1 x2 => x1 ++ x2) #[] (List.replicate (if its.toArray.isEmpty = true then 0 else k.toNat) its.toArray) = (List.replicate k.toNat its).flatten.toArray := by
    have f0 := foldl_rep its (if its.toArray.isEmpty = true then 0 else k.toNat) []
    rw [List.nil_append] at f0
    refine f0.trans ?_
    cases its with
    | nil => simp
    | cons a r' => rw [if_neg (by simp)]
  have two := call_meets (prog := X.prog) (w := X.w) (A := X.A) (E := X.xe) (Q := EP X pins σ Q) (s := s) F.slot_list_mul (show s.TypeIs (.ref l) "list" from ⟨_, e, rfl⟩) F.entry_list_mul (F.args_list_mul_2 _ _) (AutoListH.list___mul___list_int_3 l its.toArray n k t c0 c1 (by rw [c2]; exact Bool.false_ne_true))
    ⟨e, by
      rw [new]
      exact ⟨.ref s.heap.objs.size, _, I.lnew (t' := s.toks) (r.rep k.toNat) (by rw [PyProof.Rows.lm_len_rep_flat, Nat.mul_comm]; exact hz), rfl, q _ I.fresh⟩⟩
  exact wpAny_binaryOp_repeat_ref (T := "list") (U := "int") (by decide) ⟨_, e, rfl⟩ (fun s' => typeIs_int s' k t) noFill_list_mul F.fills_int_mul F.slot_int_rmul repeat_list F.slot_int_index.lookup
    (call_meets F.slot_int_rmul (typeIs_int s k t) F.entry_int_rmul (F.args_int_rmul_2 _ _) (int___rmul___int_list k t l its.toArray n) ⟨e, rfl, ⟨_, e, rfl⟩, two⟩)

/-! ### new tuples -/
/-- a new tuple is laid -/
theorem laidT {pins : List (Addr × Obj)} {σ : L2.St} {H : Hp} {s : Shared} {xs : List V} {us : List Value} {Q : VK} (I : Inv X pins σ H s) (r : Vals xs us) (hz : xs.length ≤ sizeLine)
    (q : ∀ p od, od.dict = none → H p = none → Q (.ref p) (upd H p (tupO od xs))) : EP X pins σ Q (.ref s.heap.objs.size) { s with heap := s.heap.push { cls := .type "tuple", data := .seq us.toArray } } := by
  have I2 := I.laid (t' := s.toks) (h' := s.heap.push { cls := .type "tuple", data := .seq us.toArray }) (a := s.heap.objs.size) (o := tupO { cls := .type "tuple", data := .seq us.toArray } xs) (fun b ob q => Heap.get?_push_of_some _ q) (Nat.le_refl _) (by
    exact ⟨Heap.get?_push_size _ rfl, hz, us, r, IsTup.new _ _⟩)
  exact ⟨.ref s.heap.objs.size, _, I2, rfl, q _ _ rfl I.fresh⟩
/-- t + u -/
theorem op_catK : OpR X (binaryOp .Add) (fun x y H Q => ∃ a b xs ys, x = .ref a ∧ y = .ref b ∧ SqT X.K H a xs ∧ SqT X.K H b ys ∧ xs.length + ys.length ≤ sizeLine ∧
    (xs = [] → Q (.ref b) H) ∧ (xs ≠ [] → ys = [] → Q (.ref a) H) ∧ (xs ≠ [] → ys ≠ [] → ∀ p od, od.dict = none → H p = none → Q (.ref p) (upd H p (tupO od (xs ++ ys))))) := by
  intro pins s σ H x y v u Q I rx ry h
  obtain ⟨a, b, xs, ys, rfl, rfl, ha, hb, hz, q0, q1, q2⟩ := h
  by_cases hx : xs = []
  · exact op_catA pins s σ H _ _ v u Q I rx ry ⟨a, b, xs, ys, rfl, rfl, ha, hb, hz, q0, q1, fun z => absurd hx z⟩
  · cases rx
    cases ry
    obtain ⟨its, r1, p1, _⟩ := I.tuple ha
    obtain ⟨its2, r2, p2, _⟩ := I.tuple hb
    exact HT.cat_tup p1 p2 (fun z => hx (r1.nil_iff.mp z)) (fun z => ⟨.ref a, H, I, rfl, q1 hx (r2.nil_iff.mp z)⟩) (fun z => laidT I (r1.append r2) (by rw [List.length_append]; exact hz) (q2 hx fun w => z (r2.nil_iff.mpr w))) (by rw [← r1.length, ← r2.length]; exact hz)
/-- t * k -/
theorem op_repK : OpR X (binaryOp .Mult) (fun x y H Q => ∃ l k xs, x = .ref l ∧ y = .int k ∧ SqT X.K H l xs ∧ xs ≠ [] ∧ 2 ≤ k ∧ k ≤ 1000 ∧ xs.length ≤ 1000 ∧ ∀ p od, od.dict = none → H p = none → Q (.ref p) (upd H p (tupO od (List.replicate k.toNat xs).flatten))) := by
  intro pins s σ H x y v u Q I rx ry h
  obtain ⟨l, k, xs, rfl, rfl, hT, hne, k1, k2, hz, q⟩ := h
  cases rx
  obtain ⟨t, rfl⟩ := ry
  obtain ⟨its, r, ⟨⟨cls, dd, data, sl⟩, ho, hc, n, hd⟩, hs⟩ := I.tuple hT
  simp only at hc hd
  subst hc hd
  have el : its.length = xs.length := r.length.symm
  have hi : its.toArray.isEmpty = false := by
    cases its with
    | nil => exact absurd (List.eq_nil_of_length_eq_zero el.symm) hne
    | cons a b => rfl
  have sz : its.toArray.size = xs.length := by rw [List.size_toArray, el]
  have hm : ((its.toArray.size : Nat) : Int) * k ≤ 1000000 := by
    rw [sz]
    have a1 : ((xs.length : Nat) : Int) * k ≤ 1000 * k := Int.mul_le_mul_of_nonneg_right (by omega) (by omega)
    omega
  have fl : k.toNat * xs.length ≤ 1000 * 1000 := Nat.mul_le_mul (by omega) hz
  have c0 : (decide (k < -(2 ^ 63)) || decide (k ≥ 2 ^ 63)) = false := by
    rw [decide_eq_false (by omega), decide_eq_false (by omega)] <;> rfl
  have c1 : (its.toArray.isEmpty || k == 1) = false := by
    rw [hi, Bool.false_or]
    exact beq_eq_false_iff_ne.mpr (by omega)
  have c2 : (decide (k ≤ 0) || its.toArray.isEmpty) = false := by
    rw [hi, Bool.or_false]
    exact decide_eq_false (by omega)
  have c4 : Builtin.Tuple.tupleTooMany (((its.toArray.size : Nat) : Int) * k) = false := by
    unfold Builtin.Tuple.tupleTooMany
    rw [sizeLine_eq]
    exact decide_eq_false (by omega)
  have fz : (List.replicate k.toNat xs).flatten.length ≤ sizeLine := by
    rw [PyProof.Rows.lm_len_rep_flat, sizeLine_eq]
    omega
  have two := call_meets (prog := X.prog) (w := X.w) (A := X.A) (E := X.xe) (Q := EP X pins σ Q) (s := s) F.slot_tuple_mul (show s.TypeIs (.ref l) "tuple" from ⟨_, ho, rfl⟩) F.entry_tuple_mul (F.args_tuple_mul_2 _ _)
    (tuple_mulW l its.toArray n dd sl k t c0 c1 c2 (by omega) c4 (by rw [size_rep, List.size_toArray, PyProof.Rows.lm_len_rep_flat, el, sizeLine_eq]; omega)) ⟨ho, by
      rw [size_rep]
      exact laidT I (r.rep k.toNat) fz q⟩
  exact wpAny_binaryOp_repeat_ref (T := "tuple") (U := "int") (by decide) ⟨_, ho, rfl⟩ (fun s' => typeIs_int s' k t) noFill_tuple_mul F.fills_int_mul F.slot_int_rmul repeat_tuple F.slot_int_index.lookup
    (call_meets F.slot_int_rmul (typeIs_int s k t) F.entry_int_rmul (F.args_int_rmul_2 _ _) (int_rmul_tuple k t l its.toArray n dd sl) ⟨ho, rfl, ⟨_, ho, rfl⟩, two⟩)
/-- t[lo:hi] -/
theorem sl_tupK : SlR X (fun x lo hi H Q => ∃ a xs, x = .ref a ∧ SqT X.K H a xs ∧
    (HT.sIx xs.length 0 lo = 0 ∧ HT.sIx xs.length xs.length hi = xs.length → Q (.ref a) H) ∧ (¬ (HT.sIx xs.length 0 lo = 0 ∧ HT.sIx xs.length xs.length hi = xs.length) → ∀ p od, od.dict = none → H p = none → Q (.ref p) (upd H p (tupO od (cutV xs lo hi))))) := by
  intro pins s σ H x v vl vu lo hi sl Q I rx hs pl pu h
  obtain ⟨a, xs, rfl, hx, q1, q2⟩ := h
  by_cases hw : HT.sIx xs.length 0 lo = 0 ∧ HT.sIx xs.length xs.length hi = xs.length
  · exact sl_tupA pins s σ H _ v vl vu lo hi sl Q I rx hs pl pu ⟨a, xs, rfl, hx, q1, fun z => absurd hw z⟩
  · cases rx
    obtain ⟨its, r, ht, hz⟩ := I.tuple hx
    have el : its.toArray.size = xs.length := by rw [List.size_toArray]; exact r.length.symm
    refine ⟨"tuple", _, PyProof.Rows.slot_tuple_getitem.lookup, ht.typeIs, HT.getItem_tuple_cut ht hs pl pu (by rw [el]; exact hw) ?_ (by rw [el]; exact hz)⟩
    rw [el]
    exact laidT I ((r.drop (HT.sIx xs.length 0 lo)).take (HT.sIx xs.length xs.length hi - HT.sIx xs.length 0 lo)) (Nat.le_trans (cutV_length xs lo hi) hz) (q2 hw)
/-- (e, ..) -/
theorem pe_tupK {es : List Expr} {t : TA} {x1 : Nat} {pos : Pos} (h : PA X es t) : PE X (.Tuple es x1 pos) (fun σ H Q => t σ H fun xs H1 => xs.length ≤ sizeLine ∧ ∀ p od, od.dict = none → H1 p = none → Q (.ref p) (upd H1 p (tupO od xs))) := by
  refine ⟨fun pins s σ H Q I hq => ?_⟩
  exact wpAny_Tuple_spliced (thn (h.run pos pins s σ H _ I hq) fun us s1 ⟨xs, H1, I1, r, z, q⟩ => ⟨by rw [← r.length]; exact z, laidT I1 r z q⟩)
/-- tuple(a list) -/
theorem call_tupleK : CallR X (.type "tuple") (fun xs H Q => ∃ p ys, xs = [.ref p] ∧ SqL X.K H p ys ∧ ∀ l od, od.dict = none → H l = none → Q (.ref l) (upd H l (tupO od ys))) := by
  intro pins s σ H xs us Q I r h
  obtain ⟨p, ys, rfl, hq, q⟩ := h
  obtain ⟨u, rfl, rx⟩ := vals1 r
  cases rx
  obtain ⟨its, r', pl, hz⟩ := I.list hq
  have hlen := r'.length
  refine call_tuple_list pl.isList (fun h' kp => ?_) (by simp only [List.size_toArray] <;> omega)
  exact laidT (s := { s with heap := h' }) (I.kept (t' := s.toks) kp) r' hz q

/-! ### the operations of the language -/
def opPy : Op2 → Operator
  | .add => .Add
  | .sub => .Sub
  | .mul => .Mult
  | .fdiv => .FloorDiv
  | .mod => .Mod
  | .pow => .Pow
theorem rpInt {p : PrW} {K : PySem.W.Frag} {H : Hp} {i : Int} {v : V} : Rp p K H (.int i) v ↔ v = .int i := by simp only [Rp]
theorem rpBool {p : PrW} {K : PySem.W.Frag} {H : Hp} {i : Bool} {v : V} : Rp p K H (.bool i) v ↔ v = .bl i := by simp only [Rp]
theorem rpStr {p : PrW} {K : PySem.W.Frag} {H : Hp} {i : Str} {v : V} : Rp p K H (.str i) v ↔ v = .str i := by simp only [Rp]
theorem rpTup {p : PrW} {K : PySem.W.Frag} {H : Hp} {ds : List D} {v : V} : Rp p K H (.tuple ds) v ↔ ∃ a xs, v = .ref a ∧ TpT K H a xs ∧ RpA p K H ds xs := by simp only [Rp]
theorem rpLst {p : PrW} {K : PySem.W.Frag} {H : Hp} {ds : List D} {v : V} : Rp p K H (.list ds) v ↔ ∃ a xs, v = .ref a ∧ FzL K H a xs ∧ RpA p K H ds xs := by simp only [Rp]
theorem op2 (c : Ctx X) : ∀ o : Op2, OpR X (binaryOp (opPy o)) (rD (pX X) X.K (opD o)) := by
  intro o pins s σ H x y v u Q I rx ry ⟨d, e, r, hd, he, hf, g⟩
  cases o with
  | add =>
    cases d <;> cases e <;> simp only [opD] at hf <;> try (cases hf; done)
    · cases hf
      rw [rpInt] at hd he
      exact op_add pins s σ H x y v u Q I rx ry ⟨_, _, hd, he, g.int⟩
    · split at hf
      · rename_i hz
        cases hf
        rw [rpLst] at hd he
        obtain ⟨a, xs, ex, h1, h2⟩ := hd
        obtain ⟨b, ys, ey, h3, h4⟩ := he
        have hz : xs.length + ys.length ≤ sizeLine := by rw [h2.len, h4.len]; exact of_decide_eq_true hz
        exact thn (op_catF pins s σ H x y v u _ I rx ry ⟨a, b, xs, ys, ex, ey, h1, h3, hz, fun p hp => ⟨p, rfl, hp, rfl⟩⟩) fun _ _ z => sealL (g.lst (h2.app h4)) z
      · cases hf
    · split at hf
      · rename_i hz
        cases hf
        rw [rpTup] at hd he
        obtain ⟨a, xs, ex, h1, h2⟩ := hd
        obtain ⟨b, ys, ey, h3, h4⟩ := he
        have hz : xs.length + ys.length ≤ sizeLine := by rw [h2.len, h4.len]; exact of_decide_eq_true hz
        refine op_catK pins s σ H x y v u Q I rx ry ⟨a, b, xs, ys, ex, ey, h1.sq, h3.sq, hz, fun e0 => ?_, fun _ e0 => ?_, fun _ _ => g.tup (h2.app h4)⟩
        · subst e0
          have z := List.eq_nil_of_length_eq_zero h2.len.symm
          subst z
          exact g _ H (Same.refl H) (rpTup.mpr ⟨b, ys, rfl, h3, h4⟩)
        · subst e0
          have z := List.eq_nil_of_length_eq_zero h4.len.symm
          subst z
          exact g _ H (Same.refl H) (rpTup.mpr ⟨a, xs, rfl, by simpa using h1, by simpa using h2⟩)
      · cases hf
  | sub =>
    cases d <;> cases e <;> simp only [opD] at hf <;> try (cases hf; done)
    cases hf
    rw [rpInt] at hd he
    exact op_sub pins s σ H x y v u Q I rx ry ⟨_, _, hd, he, g.int⟩
  | mul =>
    cases d <;> cases e <;> simp only [opD] at hf <;> try (cases hf; done)
    · split at hf
      · rename_i hz
        cases hf
        rw [rpInt] at hd he
        exact op_mulW pins s σ H x y v u Q I rx ry ⟨_, _, hd, he, hz, g.int⟩
      · cases hf
    · split at hf
      · rename_i hz
        cases hf
        rw [rpInt] at he
        rw [rpLst] at hd
        obtain ⟨a, xs, ex, h1, h2⟩ := hd
        obtain ⟨k1, k2, k3⟩ := hz
        have hz := of_decide_eq_true k3
        rw [← h2.len] at hz
        exact thn (op_repF pins s σ H x y v u _ I rx ry ⟨a, _, xs, ex, he, h1, k1, k2, hz, fun p hp => ⟨p, rfl, hp, rfl⟩⟩) fun _ _ z => sealL (g.lst (h2.rep _)) z
      · cases hf
    · split at hf
      · rename_i hz
        cases hf
        rw [rpInt] at he
        rw [rpTup] at hd
        obtain ⟨a, xs, ex, h1, h2⟩ := hd
        obtain ⟨k0, k1, k2, k3⟩ := hz
        refine op_repK pins s σ H x y v u _ I rx ry ⟨a, _, xs, ex, he, h1.sq, ?_, k1, k2, ?_, g.tup (h2.rep _)⟩
        · intro z
          have := h2.len
          rw [z] at this
          have z2 := List.eq_nil_of_length_eq_zero this.symm
          rw [z2] at k0
          cases k0
        · rw [h2.len]
          exact k3
      · cases hf
  | fdiv =>
    cases d <;> cases e <;> simp only [opD] at hf <;> try (cases hf; done)
    split at hf
    · rename_i hz
      cases hf
      rw [rpInt] at hd he
      exact op_fdivW pins s σ H x y v u Q I rx ry ⟨_, _, hd, he, hz, g.int⟩
    · cases hf
  | mod =>
    cases d <;> cases e <;> simp only [opD] at hf <;> try (cases hf; done)
    split at hf
    · rename_i hz
      cases hf
      rw [rpInt] at hd he
      exact op_mod pins s σ H x y v u Q I rx ry ⟨_, _, hd, he, hz, g.int⟩
    · cases hf
  | pow =>
    cases d <;> cases e <;> simp only [opD] at hf <;> try (cases hf; done)
    split at hf
    · rename_i hz
      cases hf
      rw [rpInt] at hd he
      exact op_pow pins s σ H x y v u Q I rx ry ⟨_, _, hd, he, hz, g.int⟩
    · cases hf
end
end PL


set_option Elab.async false
set_option linter.all false
set_option maxRecDepth 100000
/-! PLc: keys; dicts asked. -/
namespace PL
open PySem PySem.Spec PyProof.Rows L2

def ORp (p : PrW) (K : PySem.W.Frag) (H : Hp) : Option D → Option V → Prop
  | none, none => True
  | some d, some v => Rp p K H d v
  | _, _ => False
section
variable {p : PrW} {K : PySem.W.Frag} {H : Hp} {T : List D}
theorem ORp.isSome {o : Option D} {u : Option V} (h : ORp p K H o u) : o.isSome = u.isSome := by
  cases o <;> cases u <;> first | rfl | exact h.elim
theorem ORp.getD {o : Option D} {u : Option V} {d : D} {v : V} (h : ORp p K H o u) (h' : Rp p K H d v) : Rp p K H (o.getD d) (u.getD v) := by
  cases o <;> cases u <;> first | exact h' | exact h | exact h.elim
theorem ORp.same {H' : Hp} {o : Option D} {u : Option V} (h : ORp p K H o u) (s : Same H H') : ORp p K H' o u := by
  cases o <;> cases u <;> first | trivial | exact Rp.keep s.kp _ _ h | exact h.elim
/-- the keys of some data -/
def KsOf (ds : List D) (ks : List NestedKey) : Prop := ds.map (kdOf []) = ks.map some
theorem KsOf.nodup {ds : List D} {ks : List NestedKey} (h : KsOf ds ks) (n : NdK ds) : ks.Nodup := by
  unfold NdK at n
  rw [h] at n
  exact (List.pairwise_map.mp n).imp fun h e => h (congrArg some e)
theorem KsOf.cons {d : D} {ds : List D} {k : NestedKey} {ks : List NestedKey} (h : kdOf [] d = some k) (t : KsOf ds ks) : KsOf (d :: ds) (k :: ks) := by
  unfold KsOf at t ⊢
  rw [List.map_cons, List.map_cons, h, t]
theorem KsOf.at {ds : List D} {ks : List NestedKey} (h : KsOf ds ks) {j : Nat} {d : D} (e : ds[j]? = some d) : ∃ k, ks[j]? = some k ∧ kdOf [] d = some k := by
  have z := congrArg (fun l => l[j]?) h
  simp only [List.getElem?_map, e, Option.map_some] at z
  cases q : ks[j]? with
  | none => rw [q] at z; cases z
  | some k =>
    rw [q] at z
    simp only [Option.map_some, Option.some.injEq] at z
    exact ⟨k, rfl, z⟩
theorem KsOf.len {ds : List D} {ks : List NestedKey} (h : KsOf ds ks) : ks.length = ds.length := by
  have := congrArg List.length h
  simpa using this.symm
theorem RpE.keys : ∀ {kvs : List (D × D)} {l : List DictEntry}, RpE p K H kvs l → KeyE p K H (kvs.map (·.1)) l
  | [], _, h => by
    simp only [RpE] at h
    exact h
  | (k, d) :: r, _, h => by
    simp only [RpE] at h
    obtain ⟨e, l', u, v, q, e1, e2, e3, e4, e5, e6, e7, e8⟩ := h
    exact ⟨e, l', u, q, e1, e2, e3, e4, e5, RpE.keys e8⟩
theorem RpE.len {kvs : List (D × D)} {l : List DictEntry} (h : RpE p K H kvs l) : l.length = kvs.length := by
  rw [h.keys.len]; simp
theorem KeyE.ks : ∀ {ds : List D} {l : List DictEntry}, KeyE p K H ds l → ∃ ks, KsOf ds ks
  | [], _, _ => ⟨[], rfl⟩
  | d :: ds, _, h => by
    obtain ⟨e, l', u, q, _, _, _, e4, _, e6⟩ := h
    obtain ⟨ks, hk⟩ := KeyE.ks e6
    exact ⟨q :: ks, hk.cons e4⟩
/-- an entry of a dict -/
theorem RpE.at : ∀ {kvs : List (D × D)} {l : List DictEntry} {j : Nat} {k d : D}, RpE p K H kvs l → kvs[j]? = some (k, d) → ∃ e u v, l[j]? = some e ∧ RelV u e.key ∧ Rp p K H k u ∧ RelV v e.val ∧ Rp p K H d v
  | [], _, _, _, _, _, e => by simp at e
  | (k, d) :: r, _, 0, _, _, h, e => by
    simp only [RpE] at h
    obtain ⟨e0, l', u, v, q, e1, e2, e3, e4, e5, e6, e7, e8⟩ := h
    simp at e
    obtain ⟨z1, z2⟩ := e
    subst e1 z1 z2
    exact ⟨e0, u, v, rfl, e2, e3, e6, e7⟩
  | (k, d) :: r, _, j + 1, k', d', h, e => by
    simp only [RpE] at h
    obtain ⟨e0, l', u, v, q, e1, e2, e3, e4, e5, e6, e7, e8⟩ := h
    subst e1
    obtain ⟨e9, u', v', h1, h2⟩ := RpE.at (j := j) e8 (by simpa using e)
    exact ⟨e9, u', v', by simpa using h1, h2⟩
theorem look_none {kvs : List (D × D)} {ks : List NestedKey} {q : NestedKey} (h : KsOf (kvs.map (·.1)) ks) (n : q ∉ ks) : lookD T kvs q = none := by
  induction kvs generalizing ks with
  | nil => rfl
  | cons pr r ih =>
    cases ks with
    | nil => simp [KsOf] at h
    | cons k ks =>
      simp only [KsOf, List.map_cons, List.cons.injEq] at h
      rw [List.mem_cons, not_or] at n
      have e : ¬ kdOf T pr.1 = some q := fun z => n.1 (by
        have z' : kdOf [] pr.1 = some q := z
        rw [h.1] at z'
        cases z'
        rfl)
      simp only [lookD, if_neg e]
      exact ih h.2 n.2
theorem look_some {kvs : List (D × D)} {ks : List NestedKey} {q : NestedKey} {j : Nat} {k d : D} (h : KsOf (kvs.map (·.1)) ks) (nd : ks.Nodup) (hj : ks[j]? = some q) (hd : kvs[j]? = some (k, d)) : lookD T kvs q = some d := by
  induction kvs generalizing ks j with
  | nil => simp at hd
  | cons pr r ih =>
    cases ks with
    | nil => simp at hj
    | cons k0 ks =>
      simp only [KsOf, List.map_cons, List.cons.injEq] at h
      have nd' := List.nodup_cons.mp nd
      cases j with
      | zero =>
        simp at hj hd
        subst hj hd
        have e : kdOf T k = some k0 := h.1
        simp only [lookD, if_pos e]
      | succ j =>
        simp at hj hd
        have e : ¬ kdOf T pr.1 = some q := fun z => nd'.1 (by
          have z' : kdOf [] pr.1 = some q := z
          rw [h.1] at z'
          cases z'
          exact List.mem_of_getElem? hj)
        simp only [lookD, if_neg e]
        exact ih h.2 nd'.2 hj hd
end
section
variable {X : Cx} {pins : List (Addr × Obj)} {σ : L2.St} {H : Hp} {s : Shared}
mutual
/-- what stands for a key is that key -/
theorem rp_nested (I : Inv X pins σ H s) : ∀ (d : D) (v : V) (u : Value) (k : NestedKey), Rp (pX X) X.K H d v → RelV v u → nk d = some k → NestedIs s.heap k u
  | .none, _, _, _, h, r, e => by
    simp only [Rp] at h
    simp only [nk] at e
    subst h
    cases e
    cases r
    exact .none
  | .bool b, _, _, _, h, r, e => by
    simp only [Rp] at h
    simp only [nk] at e
    subst h
    cases e
    cases r
    exact .bool rfl
  | .int i, _, _, _, h, r, e => by
    simp only [Rp] at h
    simp only [nk] at e
    subst h
    cases e
    obtain ⟨t, rfl⟩ := r
    exact .int _ _
  | .str x, _, _, _, h, r, e => by
    simp only [Rp] at h
    simp only [nk] at e
    subst h
    cases e
    obtain ⟨t, rfl⟩ := r
    exact .text _ _
  | .tuple ds, _, _, _, h, r, e => by
    simp only [nk] at e
    obtain ⟨ks, e1, e2⟩ := Option.map_eq_some_iff.mp e
    subst e2
    obtain ⟨a, xs, ev, h1, h2⟩ := rpTup.mp h
    subst ev
    cases r
    obtain ⟨its, r', ⟨o, ho, hc, n, hd⟩, hz⟩ := I.tuple h1.sq
    exact .tup ho hc hd (by simpa using rp_nesteds I ds xs its ks h2 r' e1)
  | .list ds, _, _, _, _, _, e => by simp [nk] at e
  | .dict kvs, _, _, _, _, _, e => by simp [nk] at e
theorem rp_nesteds (I : Inv X pins σ H s) : ∀ (ds : List D) (vs : List V) (us : List Value) (ks : List NestedKey), RpA (pX X) X.K H ds vs → Vals vs us → nks ds = some ks → NestedAll s.heap ks us
  | [], _, _, _, h, r, e => by
    simp only [RpA] at h
    simp only [nks] at e
    subst h
    cases e
    cases r
    exact .nil
  | d :: ds, _, _, _, h, r, e => by
    simp only [RpA] at h
    obtain ⟨v, vs, ev, h1, h2⟩ := h
    subst ev
    simp only [nks] at e
    obtain ⟨k, e1, e2⟩ := Option.bind_eq_some_iff.mp e
    obtain ⟨ks, e3, e4⟩ := Option.map_eq_some_iff.mp e2
    subst e4
    cases r with
    | cons r1 r2 => exact .cons (rp_nested I d v _ k h1 r1 e1) (rp_nesteds I ds vs _ ks h2 r2 e3)
end
theorem rp_keyAt (I : Inv X pins σ H s) {T : List D} {d : D} {v : V} {u : Value} {k : NestedKey} (h : Rp (pX X) X.K H d v) (r : RelV v u) (e : kdOf T d = some k) : GD.KeyAt s.heap k u := by
  unfold kdOf at e
  obtain ⟨k', e1, e2⟩ := Option.bind_eq_some_iff.mp e
  split at e2
  · rename_i hd
    cases e2
    exact ⟨rp_nested I d v u k h r e1, hd⟩
  · cases e2
theorem KeyE.ents (I : Inv X pins σ H s) : ∀ {ds : List D} {l : List DictEntry} {ks : List NestedKey}, KeyE (pX X) X.K H ds l → KsOf ds ks → GD.Ents X.w s.heap l ks := by
  intro ds l ks h hk
  refine ⟨by rw [h.len, hk.len], fun i e k he hki => ?_⟩
  induction ds generalizing l ks i with
  | nil =>
    have h : l = [] := h
    subst h
    simp at he
  | cons d ds ih =>
    obtain ⟨e0, l', u, q, e1, e2, e3, e4, e5, e6⟩ := h
    subst e1
    cases ks with
    | nil => simp at hki
    | cons k0 ks =>
      simp only [KsOf, List.map_cons, List.cons.injEq] at hk
      rw [e4] at hk
      obtain ⟨hk1, hk2⟩ := hk
      cases hk1
      cases i with
      | zero =>
        simp at he hki
        subst he hki
        exact ⟨rp_keyAt I e3 e2 e4, e5⟩
      | succ i => exact ih e6 hk2 i (by simpa using he) (by simpa using hki)
/-- a raw dict in the heap -/
theorem raw_at (I : Inv X pins σ H s) {a : Addr} {es : Array DictEntry} (h : Rd H a (rawO a es)) : (a == sysModules) = false ∧ es.size ≤ sizeLine ∧ GD.RawD s.heap a es := by
  obtain ⟨h1, _⟩ := (show ObjOk X.prog X.w H s.heap a (rawO a es) from Rd.ok h I.hok)
  exact h1
end
end PL


set_option Elab.async false
set_option linter.all false
set_option maxRecDepth 100000
/-! PLca: a dict by its entries: asked, written, walked. -/
namespace GD
open PySem PySem.Spec PySem.Calls
section
variable {prog : Program} {w : World} {A : Around} {E : Value → Shared → Prop} {s : Shared} {es : Array DictEntry} {ks : List NestedKey} {k : NestedKey} {kv : Value} {d : Addr}
/-- k in d, by the slot's own code -/
theorem contains_raw {Q : Bool → Shared → Prop} (hu : A.units + 9 < cLine) (hk : KeyAt s.heap k kv) (hd : RawD s.heap d es) (hds : (d == sysModules) = false) (he : Ents w s.heap es.toList ks) (nd : ks.Nodup)
    (h : Q (decide (k ∈ ks)) { s with toks := s.toks + k.draws }) : wpAny (model prog w) A (contains (.ref d) kv) Q E s := by
  have ht := hd.typeIs
  unfold contains
  try with_reducible refine wpAny_holding ?_
  refine wpAny_bind (wpAny_specialOf ht slot_dict_contains.lookup ?_)
  rw [if_neg (by rw [beq_builtin_none]; exact Bool.false_ne_true)]
  refine wpAny_bind (wpAny_callSpecialUnlessNone?_slot (name := Str.ofString "__contains__") ht slot_dict_contains (wpAny_call_entry slot_dict_contains ht entry_dict_contains ?_ (args_dict_contains _ _)))
  show wpAny _ _ (dictGet d kv >>= _) _ _ s
  refine wpAny_bind (get_key (show A.in1.units + 8 < cLine by rw [Around.in1_units]; omega) hk hd he nd (fun hn => ?_) fun j x hj hx => ?_)
  · rw [decide_eq_false hn] at h
    show wpAny _ _ (Builtin.Dict.pendingKey? d kv >>= _) _ _ _
    exact wpAny_bind (wpAny_pendingKey_other hds (wpAny_pure ⟨_, rfl, wpAny_truthy_bool h⟩))
  · rw [decide_eq_true (List.mem_of_getElem? hj)] at h
    exact wpAny_pure ⟨_, rfl, wpAny_truthy_bool h⟩
theorem in_raw {Q : Value → Shared → Prop} (hu : A.units + 9 < cLine) (hk : KeyAt s.heap k kv) (hd : RawD s.heap d es) (hds : (d == sysModules) = false) (he : Ents w s.heap es.toList ks) (nd : ks.Nodup)
    (h : Q (.bool (decide (k ∈ ks))) { s with toks := s.toks + k.draws }) : wpAny (model prog w) A (compareOp .In kv (.ref d)) Q E s := by
  show wpAny _ _ (do return .bool (← contains (.ref d) kv)) Q E s
  exact wpAny_bind (contains_raw hu hk hd hds he nd (wpAny_pure h))
theorem notIn_raw {Q : Value → Shared → Prop} (hu : A.units + 9 < cLine) (hk : KeyAt s.heap k kv) (hd : RawD s.heap d es) (hds : (d == sysModules) = false) (he : Ents w s.heap es.toList ks) (nd : ks.Nodup)
    (h : Q (.bool (!decide (k ∈ ks))) { s with toks := s.toks + k.draws }) : wpAny (model prog w) A (compareOp .NotIn kv (.ref d)) Q E s := by
  show wpAny _ _ (do return .bool (!(← contains (.ref d) kv))) Q E s
  exact wpAny_bind (contains_raw hu hk hd hds he nd (wpAny_pure h))
/-- d[k], there -/
theorem item_raw {j : Nat} {x : DictEntry} {Q : Value → Shared → Prop} (hu : A.units + 9 < cLine) (hk : KeyAt s.heap k kv) (hd : RawD s.heap d es) (he : Ents w s.heap es.toList ks) (nd : ks.Nodup) (hj : ks[j]? = some k) (hx : es[j]? = some x)
    (h : Q x.val { s with toks := s.toks + k.draws }) : wpAny (model prog w) A (getItem (.ref d) kv) Q E s := by
  have ht := hd.typeIs
  unfold getItem
  try with_reducible refine wpAny_holding ?_
  refine wpAny_bind (wpAny_sequenceKey ht (by decide) ?_)
  refine wpAny_bind (wpAny_callSpecial?_slot (name := Str.ofString "__getitem__") ht slot_dict_getitem (wpAny_call_entry slot_dict_getitem ht entry_dict_getitem ?_ (args_dict_getitem _ _)))
  show wpAny _ _ (dictGet d kv >>= _) _ _ s
  refine wpAny_bind (get_key (show A.in1.units + 8 < cLine by rw [Around.in1_units]; omega) hk hd he nd (fun hn => absurd (List.mem_of_getElem? hj) hn) fun j' x' hj' hx' => ?_)
  have ej := uniq nd hj hj'
  subst ej
  rw [hx] at hx'
  cases hx'
  exact wpAny_pure ⟨x.val, rfl, wpAny_pure h⟩
/-- d[k] = v -/
theorem setItem_raw {v : Value} {Q : Unit → Shared → Prop} (hu : A.units + 9 < cLine) (hk : KeyAt s.heap k kv) (hd : RawD s.heap d es) (he : Ents w s.heap es.toList ks) (nd : ks.Nodup) (hz : es.size ≤ sizeLine)
    (hn : k ∉ ks → ∀ h', RawD h' d (es.push ⟨k.hash w, kv, v⟩) → Heap.SameBut d s.heap h' → Q () { s with heap := h', toks := s.toks + k.draws })
    (hs : ∀ (j : Nat), ks[j]? = some k → ∀ h', RawD h' d (es.modify j fun x => { x with val := v }) → Heap.SameBut d s.heap h' → Q () { s with heap := h', toks := s.toks + k.draws }) : wpAny (model prog w) A (setItem (.ref d) kv v) Q E s := by
  have ht := hd.typeIs
  unfold setItem
  try with_reducible refine wpAny_holding ?_
  refine wpAny_bind (wpAny_sequenceKey ht (by decide) ?_)
  refine wpAny_bind (wpAny_callSpecial?_slot (name := Str.ofString "__setitem__") ht slot_dict_setitem (wpAny_call_entry slot_dict_setitem ht entry_dict_setitem ?_ (args_dict_setitem _ _ _)))
  show wpAny _ _ (Builtin.Dict.notOrdered "__setitem__" ⟨[.ref d, kv, v], []⟩ >>= _) _ _ s
  refine wpAny_bind (wpAny_notOrdered_dict ht ?_)
  show wpAny _ _ (dictSet d kv v >>= _) _ _ s
  exact wpAny_bind (set_key (show A.in1.units + 8 < cLine by rw [Around.in1_units]; omega) hk hd he nd hz (fun z h' hr hsb => wpAny_pure ⟨.none, rfl, wpAny_pure (hn z h' hr hsb)⟩) fun j hj h' hr hsb => wpAny_pure ⟨.none, rfl, wpAny_pure (hs j hj h' hr hsb)⟩)
/-- d.get(k, x) -/
theorem get2_raw {dflt : Value} {Q : Value → Shared → Prop} (hu : A.units + 9 < cLine) (hk : KeyAt s.heap k kv) (hd : RawD s.heap d es) (hds : (d == sysModules) = false) (he : Ents w s.heap es.toList ks) (nd : ks.Nodup)
    (hn : k ∉ ks → Q dflt { s with toks := s.toks + k.draws }) (hs : ∀ (j : Nat) (x : DictEntry), ks[j]? = some k → es[j]? = some x → Q x.val { s with toks := s.toks + k.draws }) : wpAny (model prog w) A (call (.builtin "dict.get") [.ref d, kv, dflt]) Q E s := by
  refine call_meetsIn F.slot_dict_get hd.typeIs F.entry_dict_get (F.args_dict_get_3 _ _ _) (.of_wp (S := fun A R s => A.in1.units + 8 < cLine ∧ KeyAt s.heap k kv ∧ RawD s.heap d es ∧ Ents w s.heap es.toList ks ∧ (k ∉ ks → R (.ok (.ret dflt)) { s with toks := s.toks + k.draws }) ∧ ∀ (j : Nat) (x : DictEntry), ks[j]? = some k → es[j]? = some x → R (.ok (.ret x.val)) { s with toks := s.toks + k.draws }) fun A R s ⟨g1, g2, g3, g4, g5, g6⟩ => ?_) ⟨by simp only [Around.in1_units]; omega, hk, hd, he, hn, hs⟩
  show wpAny _ _ (dictGet d kv >>= _) _ _ s
  refine wpAny_bind (get_key g1 g2 g3 g4 nd (fun z => ?_) fun j x hj hx => ?_)
  · show wpAny _ _ (Builtin.Dict.missed d kv >>= _) _ _ _
    exact wpAny_bind (wpAny_missed_other hds (wpAny_pure ⟨dflt, rfl, g5 z⟩))
  · exact wpAny_pure ⟨x.val, rfl, g6 j x hj hx⟩
/-- d.setdefault(k, x) -/
theorem setd_raw {dflt : Value} {Q : Value → Shared → Prop} (hu : A.units + 9 < cLine) (hk : KeyAt s.heap k kv) (hd : RawD s.heap d es) (hds : (d == sysModules) = false) (he : Ents w s.heap es.toList ks) (nd : ks.Nodup) (hz : es.size ≤ sizeLine)
    (hn : k ∉ ks → ∀ h', RawD h' d (es.push ⟨k.hash w, kv, dflt⟩) → Heap.SameBut d s.heap h' → Q dflt { s with heap := h', toks := s.toks + k.draws })
    (hs : ∀ (j : Nat) (x : DictEntry), ks[j]? = some k → es[j]? = some x → Q x.val { s with toks := s.toks + k.draws }) : wpAny (model prog w) A (call (.builtin "dict.setdefault") [.ref d, kv, dflt]) Q E s := by
  refine call_meetsIn F.slot_dict_setdefault hd.typeIs F.entry_dict_setdefault (F.args_dict_setdefault_3 _ _ _) (.of_wp (S := fun A R s => A.in1.units + 8 < cLine ∧ KeyAt s.heap k kv ∧ RawD s.heap d es ∧ Ents w s.heap es.toList ks ∧
    (k ∉ ks → ∀ h', RawD h' d (es.push ⟨k.hash w, kv, dflt⟩) → Heap.SameBut d s.heap h' → R (.ok (.ret dflt)) { s with heap := h', toks := s.toks + k.draws }) ∧ ∀ (j : Nat) (x : DictEntry), ks[j]? = some k → es[j]? = some x → R (.ok (.ret x.val)) { s with toks := s.toks + k.draws }) fun A R s ⟨g1, g2, g3, g4, g5, g6⟩ => ?_) ⟨by simp only [Around.in1_units]; omega, hk, hd, he, hn, hs⟩
  unfold Builtin.«dict.setdefault»
  refine wpAny_bind ?_
  unfold Builtin.Dict.keyAndDefault
  refine wpAny_bind (wpAny_notOrdered_dict g3.typeIs ?_)
  show wpAny _ _ (pure (d, kv, some dflt)) _ _ s
  refine wpAny_pure ?_
  show wpAny _ _ (if (d == sysModules) = true then _ else (dictSetDefault d kv dflt >>= _)) _ _ s
  rw [if_neg (by rw [hds]; exact Bool.false_ne_true)]
  exact wpAny_bind (setd_key g1 g2 g3 g4 nd hz (fun z h' hr hsb => wpAny_pure ⟨dflt, rfl, g5 z h' hr hsb⟩) fun j x hj hx => wpAny_pure ⟨x.val, rfl, g6 j x hj hx⟩)
/-- len(d) -/
theorem len_raw {Q : Value → Shared → Prop} (hd : RawD s.heap d es) (hds : (d == sysModules) = false) (hz : es.size ≤ sizeLine) (h : ∀ t t', Q (.int es.size t) { s with toks := t' }) : wpAny (model prog w) A (call (.builtin "len") [.ref d]) Q E s := by
  obtain ⟨o, ep, ho, hc, hdd⟩ := hd
  have hm : s.heap.DictRaw d es ep := ⟨o, ho, hc, hdd⟩
  rw [sizeLine_eq] at hz
  refine Calls.call_function_entry kind_len plain_len entry_len (args_len1 _) ?_
  unfold Builtin.«len»
  refine wpAny_bind (m := oneArg "len" _) (wpAny_pure ?_)
  refine wpAny_bind (m := callSpecial? (.ref d) (Str.ofString "__len__")) (wpAny_callSpecial?_slot (name := Str.ofString "__len__") hm.typeIs F.slot_dict_len (call_len_raw hds hm ?_))
  refine wpAny_bind (wpAny_holding (wpAny_pure ?_))
  refine wpAny_bind (wpAny_letGo ?_)
  show wpAny _ _ (if ((es.size : Nat) : Int) < 0 then _ else _) _ _ _
  rw [if_neg (by omega)]
  show wpAny _ _ (if ((es.size : Nat) : Int) ≥ 2 ^ 63 then _ else _) _ _ _
  rw [if_neg (by omega)]
  exact wpAny_bind (wpAny_mkInt (wpAny_pure ⟨_, rfl, h _ _⟩))
end
end GD


set_option Elab.async false
set_option linter.all false
set_option maxRecDepth 100000
/-! PLcb: walks over a frozen dict, by its entries. -/
namespace PL
open PySem PySem.Spec PyProof.Rows L2
section
variable {X : Cx} {pins : List (Addr × Obj)} {σ : L2.St} {H : Hp} {s : Shared} {d : Addr} {o : Obj} {es : Array DictEntry}
theorem Inv.frzR (I : Inv X pins σ H s) (h : H d = some (.frz o (rawO d es))) : (d == sysModules) = false ∧ es.size ≤ sizeLine ∧ s.heap.get? d = some o ∧ o.ExactDict ∧ ∃ ep, o.data = .dict es ep := by
  obtain ⟨h1, ⟨h2, h3, o', ep, h4, h5, h6⟩, _⟩ := (show ObjOk X.prog X.w H s.heap d (.frz o (rawO d es)) from I.hok d _ h)
  rw [h1] at h4
  cases h4
  exact ⟨h2, h3, h1, h5, ep, h6⟩
end
/-- the keys -/
def ItK (d : Addr) (o : Obj) (es : Array DictEntry) : It :=
  ⟨fun i H => H d = some (.frz o (rawO d es)) ∧ ∃ x e, es[i]? = some e ∧ RelV x e.key, fun i H x H' => H' = H ∧ ∃ e, es[i]? = some e ∧ RelV x e.key, fun i H => H d = some (.frz o (rawO d es)) ∧ es.size ≤ i⟩
/-- the values -/
def ItD (d : Addr) (o : Obj) (es : Array DictEntry) : It :=
  ⟨fun i H => H d = some (.frz o (rawO d es)) ∧ ∃ x e, es[i]? = some e ∧ RelV x e.val, fun i H x H' => H' = H ∧ ∃ e, es[i]? = some e ∧ RelV x e.val, fun i H => H d = some (.frz o (rawO d es)) ∧ es.size ≤ i⟩
/-- the pairs, each a new tuple -/
def ItI (d : Addr) (o : Obj) (es : Array DictEntry) : It :=
  ⟨fun i H => H d = some (.frz o (rawO d es)) ∧ ∃ x y e, es[i]? = some e ∧ RelV x e.key ∧ RelV y e.val, fun i H z H' => ∃ a od x y e, es[i]? = some e ∧ RelV x e.key ∧ RelV y e.val ∧ z = .ref a ∧ H a = none ∧ od.dict = none ∧ H' = upd H a (.frz od (.tup [x, y])), fun i H => H d = some (.frz o (rawO d es)) ∧ es.size ≤ i⟩
section
variable {P : Program} {w : World} {K : PySem.W.Frag} {tg : Expr} {d : Addr} {o : Obj} {es : Array DictEntry} {ep : Nat}
theorem fpt {X : Cx} {pins : List (Addr × Obj)} {H : Hp} {it : Addr} (hf : ∀ b ∈ [it], FpOk X pins H b) : FpOk X pins H it := hf it List.mem_cons_self
theorem turn_K (it : Addr) (hod : o.data = .dict es ep) : Turn P w K tg (ItK d o es) [it] it (fun i h => h.IsKeyIter it d i es.size ep) where
  mem := List.mem_cons_self
  obj := fun i h st b hb => by
    obtain ⟨oi, e, c, dd⟩ := st
    rw [List.mem_singleton.mp hb]
    exact ⟨oi, e, fun v z => by rw [dd] at z; cases z⟩
  keep := fun i h h' st k => st.at fun oi e => k it List.mem_cons_self oi e
  item := by
    intro X hP hw hK hc i pins s σ H E I hf st hg
    subst hP hw hK
    obtain ⟨hd, x, e, he, rx⟩ := hg
    obtain ⟨f0, f1, f2, f3, f4, f5⟩ := fpt hf
    obtain ⟨h1, h2, h3, h4, ep', h5⟩ := Inv.frzR I hd
    obtain ⟨hi, ee⟩ := Array.getElem?_eq_some_iff.mp he
    refine wpAny_pyNext_keys_item_raw st ⟨o, h3, h4, hod⟩ hi fun h' st' sb => ?_
    have I1 : Inv X pins σ H { s with heap := h' } := I.turned (t' := s.toks) (fun b ob hb e => (sb.2 b hb).trans e) f0 f1 f3 f4 f5
    obtain ⟨oi, e1, c, dd⟩ := id st'
    rw [ee]
    exact ⟨e.key, rfl, go_of (s := { s with heap := h' }) e1 c dd (by decide) ⟨x, H, I1, rx, ⟨rfl, e, he, rx⟩, st', fun b hb => (hf b hb).1⟩⟩
  done := by
    intro X hP hw hK hc i pins s σ H E I hf st hg
    subst hP hw hK
    obtain ⟨f0, f1, f2, f3, f4, f5⟩ := fpt hf
    obtain ⟨h1, h2, h3, h4, ep', h5⟩ := Inv.frzR I hg.1
    exact wpAny_pyNext_keys_end_raw (I.ok.hd hc) st ⟨o, h3, h4, hod⟩ hg.2 fun h' eb => ⟨rfl, I.turned (t' := s.toks) (fun b ob hb e => eb b ob hb e) f0 f1 f3 f4 f5⟩
  self := fun A i s Q E st h => wpAny_pyIter_keyiter st h
theorem turn_D (it : Addr) (hod : o.data = .dict es ep) : Turn P w K tg (ItD d o es) [it] it (fun i h => h.IsValIter it d i es.size ep) where
  mem := List.mem_cons_self
  obj := fun i h st b hb => by
    obtain ⟨oi, e, c, dd⟩ := st
    rw [List.mem_singleton.mp hb]
    exact ⟨oi, e, fun v z => by rw [dd] at z; cases z⟩
  keep := fun i h h' st k => st.at fun oi e => k it List.mem_cons_self oi e
  item := by
    intro X hP hw hK hc i pins s σ H E I hf st hg
    subst hP hw hK
    obtain ⟨hd, x, e, he, rx⟩ := hg
    obtain ⟨f0, f1, f2, f3, f4, f5⟩ := fpt hf
    obtain ⟨h1, h2, h3, h4, ep', h5⟩ := Inv.frzR I hd
    obtain ⟨hi, ee⟩ := Array.getElem?_eq_some_iff.mp he
    refine wpAny_pyNext_values_item_raw st ⟨o, h3, h4, hod⟩ hi fun h' st' sb => ?_
    have I1 : Inv X pins σ H { s with heap := h' } := I.turned (t' := s.toks) (fun b ob hb e => (sb.2 b hb).trans e) f0 f1 f3 f4 f5
    obtain ⟨oi, e1, c, dd⟩ := id st'
    rw [ee]
    exact ⟨e.val, rfl, go_of (s := { s with heap := h' }) e1 c dd (by decide) ⟨x, H, I1, rx, ⟨rfl, e, he, rx⟩, st', fun b hb => (hf b hb).1⟩⟩
  done := by
    intro X hP hw hK hc i pins s σ H E I hf st hg
    subst hP hw hK
    obtain ⟨f0, f1, f2, f3, f4, f5⟩ := fpt hf
    obtain ⟨h1, h2, h3, h4, ep', h5⟩ := Inv.frzR I hg.1
    exact wpAny_pyNext_values_end_raw (I.ok.hd hc) st ⟨o, h3, h4, hod⟩ hg.2 fun h' eb => ⟨rfl, I.turned (t' := s.toks) (fun b ob hb e => eb b ob hb e) f0 f1 f3 f4 f5⟩
  self := fun A i s Q E st h => wpAny_pyIter_valiter st h
theorem turn_I {elts : List Expr} {kk : Nat} {tpos : Pos} (it : Addr) (hod : o.data = .dict es ep) :
    Turn P w K (.Tuple elts kk tpos) (ItI d o es) [it] it (fun i h => ∃ ok ov, IsItemIter h it d i es.size ep ok ov) where
  mem := List.mem_cons_self
  obj := fun i h st b hb => by
    obtain ⟨ok, ov, e⟩ := st
    rw [List.mem_singleton.mp hb]
    exact ⟨_, e, fun v z => nomatch z⟩
  keep := fun i h h' st k => let ⟨ok, ov, e⟩ := st; ⟨ok, ov, k it List.mem_cons_self _ e⟩
  item := by
    intro X hP hw hK hc i pins s σ H E I hf st hg
    subst hP hw hK
    obtain ⟨hd, x, y, e, he, rx, ry⟩ := hg
    obtain ⟨h1, h2, h3, h4, ep', h5⟩ := Inv.frzR I hd
    obtain ⟨hi, ee⟩ := Array.getElem?_eq_some_iff.mp he
    obtain ⟨ok, ov, hit⟩ := st
    have hlt : it < s.heap.objs.size := Heap.lt_size hit
    refine wpAny_pyNext_items_item_raw hit ⟨o, h3, h4, hod⟩ hi fun h' ho hT hz hk => ?_
    rw [ee] at ho hT
    refine ⟨_, rfl, wpAny_letOwnedTupleGo_items (s := { s with heap := h' }) ho fun h'' he' sb => ?_⟩
    have hT2 : h''.get? s.heap.objs.size = some { cls := .type "tuple", data := .seq #[e.key, e.val] } := (sb.2 _ (Nat.ne_of_gt hlt)).trans hT
    have new : ObjOk X.prog X.w (upd H s.heap.objs.size (.frz { cls := .type "tuple", data := .seq #[e.key, e.val] } (.tup [x, y]))) h'' s.heap.objs.size (.frz { cls := .type "tuple", data := .seq #[e.key, e.val] } (.tup [x, y])) :=
      ⟨hT2, by show 2 ≤ sizeLine; decide, [e.key, e.val], .cons rx (.cons ry .nil), ⟨_, hT2, rfl, _, rfl⟩⟩
    have I1 := I.turnedNew (t' := s.toks) (ch := [it]) (fun b ob hb e => (sb.2 b (by simpa using hb)).trans (hk b ob (by simpa using hb) e)) hf (Nat.le_refl _) new
    refine ⟨.ref s.heap.objs.size, _, I1, rfl, ⟨_, _, x, y, e, he, rx, ry, rfl, I.hok.fresh (Nat.le_refl _), rfl, rfl⟩, ⟨_, _, he'⟩, fun b hb => ?_⟩
    have eb := List.mem_singleton.mp hb
    rw [eb, upd_ne (Nat.ne_of_lt hlt)]
    exact (fpt hf).1
  done := by
    intro X hP hw hK hc i pins s σ H E I hf st hg
    subst hP hw hK
    obtain ⟨f0, f1, f2, f3, f4, f5⟩ := fpt hf
    obtain ⟨h1, h2, h3, h4, ep', h5⟩ := Inv.frzR I hg.1
    obtain ⟨ok, ov, hit⟩ := st
    exact wpAny_pyNext_items_end_raw (I.ok.hd hc) hit ⟨o, h3, h4, hod⟩ hg.2 fun h' eb => ⟨rfl, I.turned (t' := s.toks) (fun b ob hb e => eb b ob hb e) f0 f1 f3 f4 f5⟩
  self := fun A i s Q E st h => let ⟨_, _, e⟩ := st; PySem.W.kcp_self e h
end
/-! ### for k in d, d.values(), d.items() -/
def iKeysR (td : TE) : TI := fun σ H R => td σ H fun x H1 => ∃ d o es, x = .ref d ∧ H1 d = some (.frz o (rawO d es)) ∧ R (ItK d o es) H1
def iValsR (td : TE) : TI := fun σ H R => td σ H fun x H1 => ∃ d o es, x = .ref d ∧ H1 d = some (.frz o (rawO d es)) ∧ R (ItD d o es) H1
def iItemsR (td : TE) : TI := fun σ H R => td σ H fun x H1 => ∃ d o es, x = .ref d ∧ H1 d = some (.frz o (rawO d es)) ∧ R (ItI d o es) H1
section
variable {X : Cx} {tg e : Expr} {td : TE} {apos cpos : Pos}
theorem no_dict {s : Shared} {d : Addr} {o : Obj} (h : s.heap.get? d = some o) (x : o.ExactDict) : ∀ b, Value.ref d = .ref b → ∃ ob, s.heap.get? b = some ob ∧ ob.dict = none := fun b q => by
  cases q
  exact ⟨o, h, x.2.1⟩
theorem pi_keysR (he : PE X e td) : PI X tg e (iKeysR td) := by
  refine ⟨fun pins s σ H R I h => ?_⟩
  refine thn (he.run pins s σ H _ I h) fun u s1 ⟨x, H1, I1, rx, d, o, es, ex, hd, q⟩ => ?_
  subst ex
  obtain rfl : u = Value.ref d := rx
  obtain ⟨h1, h2, h3, h4, ep, h5⟩ := Inv.frzR I1 hd
  exact wpAny_pyIter_dict_raw h1 ⟨o, h3, h4, h5⟩ (pi_one (tk := s1.toks) I1 _ (turn_K _ h5) ⟨_, Heap.get?_push_size _ rfl, rfl, rfl⟩ q)
theorem pi_valuesR (he : PE X e td) (hbase : attributeBase e "values" X.env (eval e X.env) = eval e X.env) (hline : (apos.endLine == cpos.line) = true) : PI X tg (.Call (.Attribute e "values" apos) [] [] cpos) (iValsR td) := by
  refine ⟨fun pins s σ H R I h => ?_⟩
  refine wpAny_Call_method (T := "dict") (id := "dict.values") hbase rfl hline F.plainAttrs_dict F.slot_dict_values F.type_dict_values (thn (he.run pins s σ H _ I h) fun u s1 ⟨x, H1, I1, rx, d, o, es, ex, hd, q⟩ => ?_)
  subst ex
  obtain rfl : u = Value.ref d := rx
  obtain ⟨h1, h2, h3, h4, ep, h5⟩ := Inv.frzR I1 hd
  have hm : s1.heap.DictRaw d es ep := ⟨o, h3, h4, h5⟩
  refine ⟨hm.typeIs, no_dict h3 h4, ?_⟩
  have I2 : Inv X pins σ H1 { s1 with heap := s1.heap.push { cls := .type "dict_values", data := .fields #[.ref d] } } := I1.kept (t' := s1.toks) fun b ob q => Heap.get?_push_of_some _ q
  have fin : wpAny (model X.prog X.w) X.A (pyIter (.ref s1.heap.objs.size)) (PIE X pins σ tg R) X.xe { s1 with heap := s1.heap.push { cls := .type "dict_values", data := .fields #[.ref d] } } :=
    wpAny_pyIter_values_raw (d := d) (es := es) (ep := ep) ⟨_, Heap.get?_push_size _ rfl, rfl, rfl⟩ (hm.at fun o e => Heap.get?_push_of_some _ e) (pi_one (tk := s1.toks) I2 _ (turn_D _ h5) ⟨_, Heap.get?_push_size _ rfl, rfl, rfl⟩ q)
  exact method_meetsIn F.slot_dict_values F.entry_dict_values rfl (PySem.evalArgs_none ⟨rfl, hm.typeIs, F.args_dict_values_1 _, _, meets_dict_values_raw d h1, ⟨es, ep, hm⟩, fin⟩)
theorem pi_itemsR {elts : List Expr} {kk : Nat} {tpos : Pos} (he : PE X e td) (hbase : attributeBase e "items" X.env (eval e X.env) = eval e X.env) (hline : (apos.endLine == cpos.line) = true) :
    PI X (.Tuple elts kk tpos) (.Call (.Attribute e "items" apos) [] [] cpos) (iItemsR td) := by
  refine ⟨fun pins s σ H R I h => ?_⟩
  refine wpAny_Call_method (T := "dict") (id := "dict.items") hbase rfl hline F.plainAttrs_dict F.slot_dict_items F.type_dict_items (thn (he.run pins s σ H _ I h) fun u s1 ⟨x, H1, I1, rx, d, o, es, ex, hd, q⟩ => ?_)
  subst ex
  obtain rfl : u = Value.ref d := rx
  obtain ⟨h1, h2, h3, h4, ep, h5⟩ := Inv.frzR I1 hd
  have hm : s1.heap.DictRaw d es ep := ⟨o, h3, h4, h5⟩
  refine ⟨hm.typeIs, no_dict h3 h4, ?_⟩
  have I2 : Inv X pins σ H1 { s1 with heap := s1.heap.push { cls := .type "dict_items", data := .fields #[.ref d] } } := I1.kept (t' := s1.toks) fun b ob q => Heap.get?_push_of_some _ q
  have fin : wpAny (model X.prog X.w) X.A (pyIter (.ref s1.heap.objs.size)) (PIE X pins σ (.Tuple elts kk tpos) R) X.xe { s1 with heap := s1.heap.push { cls := .type "dict_items", data := .fields #[.ref d] } } :=
    wpAny_pyIter_items_raw (d := d) (es := es) (ep := ep) ⟨_, Heap.get?_push_size _ rfl, rfl, rfl⟩ (hm.at fun o e => Heap.get?_push_of_some _ e) (pi_one (tk := s1.toks) I2 _ (turn_I _ h5) ⟨.none, .none, Heap.get?_push_size _ rfl⟩ q)
  exact method_meetsIn F.slot_dict_items F.entry_dict_items rfl (PySem.evalArgs_none ⟨rfl, hm.typeIs, F.args_dict_items_1 _, _, meets_dict_items_raw d h1, ⟨es, ep, hm⟩, fin⟩)
end
end PL


set_option Elab.async false
set_option linter.all false
set_option maxRecDepth 100000
/-! PLd: comparisons, built-in functions, items, slices, by values. -/
namespace PL
open PySem PySem.Spec PyProof.Rows L2
section
variable {X : Cx} {T : List D}

/-- a datum that is a dict is told by its entries -/
theorem rp_raw {p : PrW} {K : PySem.W.Frag} {H : Hp} {kvs : List (D × D)} {v : V} (h : Rp p K H (.dict kvs) v) (n : noO kvs = true) : ∃ a o es, v = .ref a ∧ H a = some (.frz o (rawO a es)) ∧ RpE p K H kvs es.toList ∧ NdK (kvs.map (·.1)) := by
  simp only [Rp] at h
  obtain ⟨a, ev, ⟨o, es, h1, h2, h3⟩ | ⟨o, C, dx, fs, h1, h2⟩⟩ := h
  · exact ⟨a, o, es, ev, h1, h2, h3⟩
  · exfalso
    cases kvs with
    | nil => simp only [RpO] at h2
    | cons q r =>
      obtain ⟨k, c⟩ := q
      simp only [RpO] at h2
      obtain ⟨e, _⟩ := h2
      subst e
      cases n
/-- what is known of a dict and a key -/
structure DK (X : Cx) (s : Shared) (H : Hp) (kvs : List (D × D)) (a : Addr) (q : NestedKey) (u : Value) : Prop where
  ex : ∃ (es : Array DictEntry) (ks : List NestedKey), (a == sysModules) = false ∧ es.size ≤ sizeLine ∧ GD.RawD s.heap a es ∧ RpE (pX X) X.K H kvs es.toList ∧ KsOf (kvs.map (·.1)) ks ∧ ks.Nodup ∧ GD.Ents X.w s.heap es.toList ks ∧ GD.KeyAt s.heap q u
theorem dk_of {pins : List (Addr × Obj)} {s : Shared} {σ : L2.St} {H : Hp} {kvs : List (D × D)} {a : Addr} {es : Array DictEntry} {k : D} {y : V} {u : Value} {q : NestedKey} (I : Inv X pins σ H s) (h1 : Rd H a (rawO a es)) (h2 : RpE (pX X) X.K H kvs es.toList) (h3 : NdK (kvs.map (·.1))) (hk : Rp (pX X) X.K H k y) (ry : RelV y u) (e : kdOf T k = some q) : DK X s H kvs a q u := by
  obtain ⟨z1, z2, z3⟩ := raw_at I h1
  obtain ⟨ks, hks⟩ := h2.keys.ks
  exact ⟨es, ks, z1, z2, z3, h2, hks, hks.nodup h3, h2.keys.ents I hks, rp_keyAt I hk ry e⟩
section
variable {pins : List (Addr × Obj)} {s : Shared} {σ : L2.St} {H : Hp} {kvs : List (D × D)} {a : Addr} {q : NestedKey} {u : Value} {A : Around} {E : Value → Shared → Prop}
theorem DK.sure (g : DK X s H kvs a q u) {d : D} (e : lookD T kvs q = some d) : ∃ (es : Array DictEntry) (ks : List NestedKey) (j : Nat) (x : DictEntry) (v : V), (a == sysModules) = false ∧ es.size ≤ sizeLine ∧ GD.RawD s.heap a es ∧ ks.Nodup ∧ GD.Ents X.w s.heap es.toList ks ∧ GD.KeyAt s.heap q u ∧ ks[j]? = some q ∧ es[j]? = some x ∧ RelV v x.val ∧ Rp (pX X) X.K H d v := by
  obtain ⟨es, ks, z1, z2, z3, h2, hks, nd, he, hk⟩ := g.ex
  by_cases hq : q ∈ ks
  · obtain ⟨j, hj⟩ := List.mem_iff_getElem?.mp hq
    have hl : j < kvs.length := by
      have := hks.len
      have := (List.getElem?_eq_some_iff.mp hj).1
      simp at *
      omega
    have hd := List.getElem?_eq_getElem hl
    have e2 := look_some (T := T) hks nd hj (k := kvs[j].1) (d := kvs[j].2) hd
    rw [e] at e2
    cases e2
    obtain ⟨x, _, v, hx, _, _, rv, hv⟩ := h2.at hd
    exact ⟨es, ks, j, x, v, z1, z2, z3, nd, he, hk, hj, by rw [← Array.getElem?_toList]; exact hx, rv, hv⟩
  · rw [look_none hks hq] at e
    cases e
theorem DK.isin (g : DK X s H kvs a q u) : ∃ (es : Array DictEntry) (ks : List NestedKey), (a == sysModules) = false ∧ GD.RawD s.heap a es ∧ ks.Nodup ∧ GD.Ents X.w s.heap es.toList ks ∧ GD.KeyAt s.heap q u ∧ decide (q ∈ ks) = (lookD T kvs q).isSome := by
  obtain ⟨es, ks, z1, z2, z3, h2, hks, nd, he, hk⟩ := g.ex
  refine ⟨es, ks, z1, z3, nd, he, hk, ?_⟩
  by_cases hq : q ∈ ks
  · obtain ⟨j, hj⟩ := List.mem_iff_getElem?.mp hq
    have hl : j < kvs.length := by
      have := hks.len
      have := (List.getElem?_eq_some_iff.mp hj).1
      simp at *
      omega
    rw [decide_eq_true hq, look_some (T := T) hks nd hj (k := kvs[j].1) (d := kvs[j].2) (List.getElem?_eq_getElem hl)]
    rfl
  · rw [decide_eq_false hq, look_none hks hq]
    rfl
/-- d[k], there -/
theorem DK.item (g : DK X s H kvs a q u) (hu : A.units + 20 < cLine) (I : Inv X pins σ H s) {d : D} (e : lookD T kvs q = some d) {Q : Value → Shared → Prop} (h : ∀ v w' s', Inv X pins σ H s' → RelV v w' → Rp (pX X) X.K H d v → Q w' s') : wpAny (model X.prog X.w) A (getItem (.ref a) u) Q E s := by
  obtain ⟨es, ks, j, x, v, z1, z2, z3, nd, he, hk, hj, hx, rv, hv⟩ := g.sure e
  exact GD.item_raw (by omega) hk z3 he nd hj hx (h v _ _ (I.tok _) rv hv)
theorem DK.get2 (g : DK X s H kvs a q u) (hu : A.units + 20 < cLine) (I : Inv X pins σ H s) {dflt : Value} {z : D} {zv : V} (rz : RelV zv dflt) (hz : Rp (pX X) X.K H z zv) {Q : Value → Shared → Prop} (h : ∀ v w' s', Inv X pins σ H s' → RelV v w' → Rp (pX X) X.K H ((lookD T kvs q).getD z) v → Q w' s') : wpAny (model X.prog X.w) A (call (.builtin "dict.get") [.ref a, u, dflt]) Q E s := by
  cases e : lookD T kvs q with
  | none =>
    obtain ⟨es, ks, z1, z3, nd, he, hk, hd⟩ := g.isin (T := T)
    rw [e] at hd h
    have hn : q ∉ ks := by simpa using hd
    exact GD.get2_raw (by omega) hk z3 z1 he nd (fun _ => h zv _ _ (I.tok _) rz hz) fun j x hj _ => absurd (List.mem_of_getElem? hj) hn
  | some d =>
    obtain ⟨es, ks, j, x, v, z1, z2, z3, nd, he, hk, hj, hx, rv, hv⟩ := g.sure e
    rw [e] at h
    refine GD.get2_raw (by omega) hk z3 z1 he nd (fun hn => absurd (List.mem_of_getElem? hj) hn) fun j' x' hj' hx' => ?_
    have ej := GD.uniq nd hj hj'
    subst ej
    rw [hx] at hx'
    cases hx'
    exact h v _ _ (I.tok _) rv hv
end
theorem getK_eq {kvs : List (D × D)} {k : D} {o : Option D} (e : getK T kvs k = some o) : noO kvs = true ∧ ∃ q, kdOf T k = some q ∧ lookD T kvs q = o := by
  unfold getK at e
  split at e
  · rename_i hn
    obtain ⟨q, e1, e2⟩ := Option.map_eq_some_iff.mp e
    exact ⟨hn, q, e1, e2⟩
  · cases e
/-- a dict that stays, and a key -/
theorem rp_dk {pins : List (Addr × Obj)} {s : Shared} {σ : L2.St} {H : Hp} {kvs : List (D × D)} {k : D} {o : Option D} {x y : V} {u : Value} (I : Inv X pins σ H s) (hd : Rp (pX X) X.K H (.dict kvs) x) (hk : Rp (pX X) X.K H k y) (ry : RelV y u) (e : getK T kvs k = some o) : ∃ a q, x = .ref a ∧ DK X s H kvs a q u ∧ lookD T kvs q = o := by
  obtain ⟨hn, q, e1, e2⟩ := getK_eq e
  obtain ⟨a, od, es, ev, h1, h2, h3⟩ := rp_raw hd hn
  exact ⟨a, q, ev, dk_of I (.inr ⟨od, h1⟩) h2 h3 hk ry e1, e2⟩

def cmpPy : Cp → CmpOp
  | .eq => .Eq
  | .ne => .NotEq
  | .lt => .Lt
  | .le => .LtE
  | .gt => .Gt
  | .ge => .GtE
  | .isin => .In
  | .notin => .NotIn
def rC (p : PrW) (K : PySem.W.Frag) (f : D → D → Option Bool) : R2 := fun x y H Q => ∃ d e r, Rp p K H d x ∧ Rp p K H e y ∧ f d e = some r ∧ Q (.bl r) H
theorem shaped_lay {d : D} (h : SeqAt.shaped d = true) : d.canLay0 = true := by
  have h2 : (d.canLay0 && decide (d.depth ≤ 64)) = true := h
  exact (Bool.and_eq_true_iff.mp h2).1
theorem cmp2 (c : Ctx X) : ∀ o : Cp, OpR X (compareOp (cmpPy o)) (rC (pX X) X.K (cmpD T o)) := by
  intro o pins s σ H x y v u Q I rx ry ⟨d, e, r, hd, he, hf, q⟩
  have hu := c.hu
  cases o with
  | eq =>
    simp only [cmpD] at hf
    split at hf
    · rename_i hs
      cases hf
      obtain ⟨h1, h2⟩ := Bool.and_eq_true_iff.mp hs
      exact op_eqD (by omega) pins s σ H x y v u Q I rx ry ⟨d, e, Rp.dp d x hd (shaped_lay h1), Rp.dp e y he (shaped_lay h2), h1, h2, q⟩
    · cases hf
  | ne =>
    simp only [cmpD] at hf
    split at hf
    · rename_i hs
      cases hf
      obtain ⟨h1, h2⟩ := Bool.and_eq_true_iff.mp hs
      exact op_neD (by omega) pins s σ H x y v u Q I rx ry ⟨d, e, Rp.dp d x hd (shaped_lay h1), Rp.dp e y he (shaped_lay h2), h1, h2, q⟩
    · cases hf
  | lt =>
    cases d <;> cases e <;> simp only [cmpD, ltD] at hf <;> try (cases hf; done)
    · cases hf
      rw [rpInt] at hd he
      exact op_lt pins s σ H x y v u Q I rx ry ⟨_, _, hd, he, q⟩
    · obtain ⟨xs, e1, e2⟩ := Option.bind_eq_some_iff.mp hf
      obtain ⟨ys, e3, e4⟩ := Option.map_eq_some_iff.mp e2
      subst e4
      obtain ⟨a, vs, ex, h1, h2⟩ := rpTup.mp hd
      obtain ⟨b, ws, ey, h3, h4⟩ := rpTup.mp he
      rw [h2.ints e1] at h1
      rw [h4.ints e3] at h3
      exact op_ltT (by omega) pins s σ H x y v u Q I rx ry ⟨a, b, xs, ys, ex, ey, h1.sq, h3.sq, q⟩
  | le =>
    cases d <;> cases e <;> simp only [cmpD] at hf <;> try (cases hf; done)
    cases hf
    rw [rpInt] at hd he
    exact op_le pins s σ H x y v u Q I rx ry ⟨_, _, hd, he, q⟩
  | gt =>
    cases d <;> cases e <;> simp only [cmpD] at hf <;> try (cases hf; done)
    cases hf
    rw [rpInt] at hd he
    exact op_gt pins s σ H x y v u Q I rx ry ⟨_, _, hd, he, q⟩
  | ge =>
    cases d <;> cases e <;> simp only [cmpD] at hf <;> try (cases hf; done)
    cases hf
    rw [rpInt] at hd he
    exact op_ge pins s σ H x y v u Q I rx ry ⟨_, _, hd, he, q⟩
  | isin =>
    cases e <;> simp only [cmpD] at hf <;> try (cases hf; done)
    · split at hf
      · rename_i ds hs
        cases hf
        obtain ⟨h1, h2⟩ := Bool.and_eq_true_iff.mp hs
        obtain ⟨as, r1⟩ := Dp.reads I d x v (Rp.dp d x hd (shaped_lay h1)) rx
        obtain ⟨bs, r2⟩ := Dp.reads I _ y u (Rp.dp _ y he (shaped_lay h2)) ry
        exact SeqAt.in_tuple_reads r2 r1 (SeqAt.canLay_of_shaped h2) (SeqAt.canLay_of_shaped h1) (room_in_shaped h1 (by omega)) ⟨.bl _, H, I, rfl, q⟩
      · cases hf
    · obtain ⟨o, e1, e2⟩ := Option.map_eq_some_iff.mp hf
      subst e2
      obtain ⟨a, qk, ey, g, eo⟩ := rp_dk I he hd rx e1
      subst ey
      cases ry
      obtain ⟨es, ks, z1, z3, nd, he', hk, hd'⟩ := g.isin (T := T)
      refine GD.in_raw (by omega) hk z3 z1 he' nd ?_
      rw [hd', eo]
      exact ⟨.bl o.isSome, H, I.tok _, rfl, q⟩
  | notin =>
    cases e <;> simp only [cmpD] at hf <;> try (cases hf; done)
    · split at hf
      · rename_i ds hs
        cases hf
        obtain ⟨h1, h2⟩ := Bool.and_eq_true_iff.mp hs
        obtain ⟨as, r1⟩ := Dp.reads I d x v (Rp.dp d x hd (shaped_lay h1)) rx
        obtain ⟨bs, r2⟩ := Dp.reads I _ y u (Rp.dp _ y he (shaped_lay h2)) ry
        exact SeqAt.notIn_tuple_reads r2 r1 (SeqAt.canLay_of_shaped h2) (SeqAt.canLay_of_shaped h1) (room_in_shaped h1 (by omega)) ⟨.bl _, H, I, rfl, q⟩
      · cases hf
    · obtain ⟨o, e1, e2⟩ := Option.map_eq_some_iff.mp hf
      subst e2
      obtain ⟨a, qk, ey, g, eo⟩ := rp_dk I he hd rx e1
      subst ey
      cases ry
      obtain ⟨es, ks, z1, z3, nd, he', hk, hd'⟩ := g.isin (T := T)
      refine GD.notIn_raw (by omega) hk z3 z1 he' nd ?_
      rw [hd', eo]
      exact ⟨.bl (!o.isSome), H, I.tok _, rfl, q⟩

/-! ### items -/
/-- an item by the type's own way, its value told behind -/
theorem tail_of {A : Around} {E : Value → Shared → Prop} {s : Shared} {value slice : Expr} {o i : Value} {U id : String} {Q : Value → Shared → Prop} (hT : s.TypeIs o U) (hl : typeLookup (.type U) "__getitem__" = pure (some (.builtin id)))
    (h : wpAny (model X.prog X.w) A (getItem o i) Q E s) (hs : subscripted slice false o i = operate [o, i] (getItem o i)) : wpAny (model X.prog X.w) A (subscriptTail value slice o i) Q E s := by
  unfold subscriptTail
  refine wpAny_bind ?_
  rw [getitemInPython_of_ne hT.not_modules]
  refine wpAny_bind (wpAny_specialOf hT hl ?_)
  have z : wpAny (model X.prog X.w) A (subscripted slice false o i) (fun r s₃ => wpAny (model X.prog X.w) A (letTemporaryGo value o r >>= fun _ => pure r) Q E s₃) E s :=
    hs ▸ wpAny_operating (thn h fun r s₃ h₃ => wpAny_bind (wpAny_letTemporaryGo (wpAny_pure h₃)))
  first
    | exact wpAny_bind (wpAny_pure (wpAny_bind z))
    | exact wpAny_pure (wpAny_bind z)
    | exact wpAny_bind z
theorem atI_get2 {p : PrW} {K : PySem.W.Frag} {H : Hp} {ds : List D} {xs : List V} {i : Int} {r : D} (h : RpA p K H ds xs) (e : atI ds i = some r) : ∃ v, atI xs i = some v ∧ Rp p K H r v := by
  unfold atI at e ⊢
  rw [h.len]
  obtain ⟨j, e1, e2⟩ := Option.bind_eq_some_iff.mp e
  obtain ⟨v, e3, rv⟩ := h.get e2
  exact ⟨v, by rw [e1]; exact e3, rv⟩
theorem ix2 (c : Ctx X) : ∀ (d e r : D), ixD T d e = some r → ∀ (value slice : Expr) (pins : List (Addr × Obj)) (s : Shared) (σ : L2.St) (H : Hp) (x y : V) (v u : Value) (Q : VK), Inv X pins σ H s → RelV x v → RelV y u → Rp (pX X) X.K H d x → Rp (pX X) X.K H e y → Give (pX X) X.K H r Q →
    subscripted slice false v u = operate [v, u] (getItem v u) → wpAny (model X.prog X.w) X.A (subscriptTail value slice v u) (EP X pins σ Q) X.xe s := by
  intro d e r hf value slice pins s σ H x y v u Q I rx ry hd he g hs
  have hu := c.hu
  cases d with
  | list ds =>
    cases e <;> simp only [ixD] at hf <;> try (cases hf; done)
    obtain ⟨a, xs, ex, h1, h2⟩ := rpLst.mp hd
    obtain ⟨w', e1, e2⟩ := atI_get2 h2 hf
    exact ix_list value slice pins s σ H x y v u Q I rx ry ⟨a, xs, _, w', ex, rpInt.mp he, h1.sq, e1, g _ H (Same.refl H) e2⟩ hs
  | tuple ds =>
    cases e <;> simp only [ixD] at hf <;> try (cases hf; done)
    obtain ⟨a, xs, ex, h1, h2⟩ := rpTup.mp hd
    obtain ⟨w', e1, e2⟩ := atI_get2 h2 hf
    exact ix_tup value slice pins s σ H x y v u Q I rx ry ⟨a, xs, _, w', ex, rpInt.mp he, h1.sq, e1, g _ H (Same.refl H) e2⟩ hs
  | dict kvs =>
    simp only [ixD] at hf
    obtain ⟨o, e1, e2⟩ := Option.bind_eq_some_iff.mp hf
    have e3 : o = some r := e2
    subst e3
    obtain ⟨a, qk, ex, dk, eo⟩ := rp_dk I hd he ry e1
    subst ex
    cases rx
    obtain ⟨_, _, _, _, dr, _⟩ := dk.ex
    exact tail_of dr.typeIs PySem.F.slot_dict_getitem.lookup (dk.item (by omega) I eo fun v w2 s3 I3 rw3 hv => ⟨v, H, I3, rw3, g _ H (Same.refl H) hv⟩) hs
  | _ => simp [ixD] at hf
end
end PL


set_option Elab.async false
set_option linter.all false
set_option maxRecDepth 100000
/-! PLf: calls of built-in functions, by values. -/
namespace PL
open PySem PySem.Spec PyProof.Rows L2
open PySem.W (EachIs)
section
variable {X : Cx} {T : List D}

def biVal : Bi → Value
  | .len => .builtin "len"
  | .abs => .builtin "abs"
  | .int => .type "int"
  | .gcd => .builtin "math.gcd"
  | .lcm => .builtin "math.lcm"
  | .comb => .builtin "math.comb"
  | .sum => .builtin "sum"
  | .all => .builtin "all"
  | .any => .builtin "any"
  | .sorted => .builtin "sorted"
  | .tuple => .type "tuple"
  | .list => .type "list"
  | .dict => .type "dict"
  | .max => .builtin "max"
  | .min => .builtin "min"
theorem RpA.one {p : PrW} {K : PySem.W.Frag} {H : Hp} {d : D} {xs : List V} (h : RpA p K H [d] xs) : ∃ v, xs = [v] ∧ Rp p K H d v := by
  simp only [RpA] at h
  obtain ⟨v, vs, e, h1, h2⟩ := h
  subst h2
  exact ⟨v, e, h1⟩
theorem RpA.two {p : PrW} {K : PySem.W.Frag} {H : Hp} {d e : D} {xs : List V} (h : RpA p K H [d, e] xs) : ∃ v u, xs = [v, u] ∧ Rp p K H d v ∧ Rp p K H e u := by
  simp only [RpA] at h
  obtain ⟨v, vs, e1, h1, u, us, e2, h2, h3⟩ := h
  subst e2 h3
  exact ⟨v, u, e1, h1, h2⟩
/-- len of a dict that stays -/
theorem len_dict (pins : List (Addr × Obj)) (s : Shared) (σ : L2.St) (H : Hp) (kvs : List (D × D)) (v : V) (u : Value) (Q : VK) (I : Inv X pins σ H s) (r : RelV v u) (hd : Rp (pX X) X.K H (.dict kvs) v) (hn : noO kvs = true) (q : Q (.int kvs.length) H) :
    wpAny (model X.prog X.w) X.A (call (.builtin "len") [u]) (EP X pins σ Q) X.xe s := by
  obtain ⟨a, o, es, ev, h1, h2, _⟩ := rp_raw hd hn
  subst ev
  cases r
  obtain ⟨z1, z2, z3⟩ := raw_at I (.inr ⟨o, h1⟩)
  refine GD.len_raw z3 z1 z2 fun t t' => ⟨.int kvs.length, H, I.tok _, ⟨t, ?_⟩, q⟩
  have e := h2.len
  rw [Array.length_toList] at e
  rw [e]
theorem sort_vals {p : PrW} {K : PySem.W.Frag} {H : Hp} : ∀ {ds : List D} {out : List Value}, EachIs (fun u d => ∃ v, RelV v u ∧ Rp p K H d v) out ds → ∃ vs, Vals vs out ∧ RpA p K H ds vs
  | _, _, .nil => ⟨[], .nil, .nil⟩
  | _, _, .cons ⟨v, r, h⟩ t => by
    obtain ⟨vs, r2, h2⟩ := sort_vals t
    exact ⟨v :: vs, .cons r r2, .cons h h2⟩
theorem sort_each {p : PrW} {K : PySem.W.Frag} {H : Hp} : ∀ {ds : List D} {vs : List V} {us : List Value}, RpA p K H ds vs → Vals vs us → EachIs (fun u d => ∃ v, RelV v u ∧ Rp p K H d v) us ds
  | [], _, _, h, r => by
    simp only [RpA] at h
    subst h
    cases r
    exact .nil
  | d :: ds, _, _, h, r => by
    simp only [RpA] at h
    obtain ⟨v, vs, e, h1, h2⟩ := h
    subst e
    cases r with
    | cons r1 r2 => exact .cons ⟨v, r1, h1⟩ (sort_each h2 r2)
theorem sort_reads (c : Ctx X) {pins : List (Addr × Obj)} {s : Shared} {σ : L2.St} {H : Hp} (I : Inv X pins σ H s) : ∀ {ds : List D} {vs : List V} {us : List Value}, RpA (pX X) X.K H ds vs → Vals vs us → PyData.canLayAll0 ds = true → EachIs (fun u d => ∃ as, Reads s.heap u (id d) as) us ds
  | [], _, _, h, r, _ => by
    simp only [RpA] at h
    subst h
    cases r
    exact .nil
  | d :: ds, _, _, h, r, l => by
    simp only [RpA] at h
    obtain ⟨v, vs, e, h1, h2⟩ := h
    subst e
    simp only [PyData.canLayAll0, Bool.and_eq_true] at l
    cases r with
    | cons r1 r2 => exact .cons (Dp.reads I d v _ (Rp.dp d v h1 l.1) r1) (sort_reads c I h2 r2 l.2)
theorem all_lay : ∀ ds : List D, (∀ d ∈ ds, d.canLay0 = true) → PyData.canLayAll0 ds = true
  | [], _ => by simp only [PyData.canLayAll0]
  | d :: ds, h => by
    simp only [PyData.canLayAll0, Bool.and_eq_true]
    exact ⟨h d List.mem_cons_self, all_lay ds fun x hx => h x (List.mem_cons_of_mem _ hx)⟩
/-- sorted(xs) -/
theorem call_sortD (c : Ctx X) (pins : List (Addr × Obj)) (s : Shared) (σ : L2.St) (H : Hp) (ds : List D) (r : D) (v : V) (u : Value) (Q : VK) (I : Inv X pins σ H s) (rv : RelV v u) (hd : Rp (pX X) X.K H (.list ds) v) (e : sortD ds = some r) (g : Give (pX X) X.K H r Q) :
    wpAny (model X.prog X.w) X.A (call (.builtin "sorted") [u]) (EP X pins σ Q) X.xe s := by
  unfold sortD at e
  split at e
  · rename_i ho
    cases e
    unfold sortOk at ho
    simp only [Bool.and_eq_true, Bool.or_eq_true, List.all_eq_true] at ho
    obtain ⟨⟨h1, h2⟩, h3⟩ := ho
    obtain ⟨a, xs, ev, h5, h6⟩ := rpLst.mp hd
    subst ev
    cases rv
    obtain ⟨its, r', pl, hz⟩ := I.list h5.sq
    have hal : PySem.W.AllAlike (ds.map id) := by
      rw [List.map_id]
      exact fun d hd' d' hd'' => h1 d hd' d' hd''
    have hk : PySem.W.Sortable (ds.map id) := by
      rw [List.map_id]
      rcases h2 with h2 | h2
      · refine .inl fun d hd' => ?_
        have z := h2 d hd'
        cases d with
        | tuple l =>
          cases l with
          | nil => cases z
          | cons x t => exact ⟨x, t, rfl⟩
        | _ => cases z
      · refine .inr fun d hd' => ?_
        have z := h2 d hd'
        cases d with
        | tuple l => cases z
        | none => cases z
        | _ => exact ⟨(by intro q; cases q), (by intro _ q; cases q)⟩
    have lay : PyData.canLayAll0 ds = true := all_lay ds fun d hd' => shaped_lay (h3 d hd')
    have hl : ds.length ≤ sizeLine := by rw [← h6.len]; exact hz
    have hu := c.hu
    refine PySem.W.sorted_data (R := fun u d => ∃ v, RelV v u ∧ Rp (pX X) X.K H d v) (enc := id) (bs := ds) (vs := its) pl.isList (sort_each h6 r') (sort_reads c I h6 r' lay) hal hk hl (fun b hb => ?_) fun out _ ho => ?_
    · have := SeqAt.depth_of_shaped (h3 b hb)
      show X.A.units + 2 + b.depth < cLine
      omega
    · obtain ⟨vs', r2, h7⟩ := sort_vals ho
      obtain ⟨ep, he⟩ := PyProof.Rows.sortedAll_at s.heap its out.toArray
      have hn : H (s.heap.objs.size + 1) = none := I.hok.fresh (Nat.le_succ _)
      have hl2 : vs'.length ≤ sizeLine := by
        rw [h7.len, List.length_mergeSort]
        exact hl
      have I2 := I.laid (t' := s.toks) (h' := PyProof.Rows.sortedAll s.heap its out.toArray) (a := s.heap.objs.size + 1) (o := .lst vs') (fun _ _ => PyProof.Rows.sortedAll_old) (Nat.le_succ _) ⟨hl2, out, ep, r2, he⟩
      exact sealL (g.lst h7) ⟨.ref _, _, I2, rfl, _, rfl, hn, rfl⟩
  · cases e
end
end PL


set_option Elab.async false
set_option linter.all false
set_option maxRecDepth 100000
/-! PLg: pairs put into a dict. -/
namespace PL
open PySem PySem.Spec PyProof.Rows L2
section
variable {p : PrW} {K : PySem.W.Frag} {H : Hp} {T : List D}
theorem rpE_snoc : ∀ {acc : List (D × D)} {l : List DictEntry} {k d : D} {u v : V} {kv vv : Value} {q : NestedKey}, RpE p K H acc l → Rp p K H k u → RelV u kv → kdOf [] k = some q → RelV v vv → Rp p K H d v → RpE p K H (acc ++ [(k, d)]) (l ++ [⟨q.hash p.w, kv, vv⟩])
  | [], _, k, d, u, v, kv, vv, q, h, h1, h2, h3, h4, h5 => by
    simp only [RpE] at h
    subst h
    simp only [List.nil_append, RpE]
    exact ⟨_, [], u, v, q, rfl, h2, h1, h3, rfl, h4, h5, rfl⟩
  | (k0, d0) :: r, _, k, d, u, v, kv, vv, q, h, h1, h2, h3, h4, h5 => by
    simp only [RpE] at h
    obtain ⟨e, l', u', v', q', e1, e2, e3, e4, e5, e6, e7, e8⟩ := h
    subst e1
    simp only [List.cons_append, RpE]
    exact ⟨e, _, u', v', q', rfl, e2, e3, e4, e5, e6, e7, rpE_snoc e8 h1 h2 h3 h4 h5⟩
theorem putD_new {acc : List (D × D)} {ks : List NestedKey} {k d : D} {q : NestedKey} (hk : KsOf (acc.map (·.1)) ks) (hn : q ∉ ks) : putD T acc k q d = acc ++ [(k, d)] := by
  unfold putD
  rw [if_neg]
  rw [List.any_eq_true]
  rintro ⟨pr, hm, he⟩
  have he : kdOf [] pr.1 = some q := of_decide_eq_true he
  obtain ⟨j, hj⟩ := List.mem_iff_getElem?.mp hm
  obtain ⟨k', h1, h2⟩ := hk.at (j := j) (d := pr.1) (by rw [List.getElem?_map, hj]; rfl)
  rw [he] at h2
  cases h2
  exact hn (List.mem_of_getElem? h1)
theorem any_of {acc : List (D × D)} {ks : List NestedKey} {q : NestedKey} {j : Nat} (hk : KsOf (acc.map (·.1)) ks) (hj : ks[j]? = some q) : (acc.any fun pr => decide (kdOf T pr.1 = some q)) = true := by
  rw [List.any_eq_true]
  have hl : j < acc.length := by
    have := hk.len
    have := (List.getElem?_eq_some_iff.mp hj).1
    simp at *
    omega
  refine ⟨acc[j], List.getElem_mem hl, ?_⟩
  obtain ⟨k', h1, h2⟩ := hk.at (j := j) (d := acc[j].1) (by rw [List.getElem?_map, List.getElem?_eq_getElem hl]; rfl)
  rw [hj] at h1
  cases h1
  exact decide_eq_true h2
theorem map_id_of {acc : List (D × D)} {ks : List NestedKey} {q : NestedKey} {d : D} (hk : KsOf (acc.map (·.1)) ks) (hn : q ∉ ks) : (acc.map fun pr => if kdOf T pr.1 = some q then (pr.1, d) else pr) = acc := by
  induction acc generalizing ks with
  | nil => rfl
  | cons pr r ih =>
    cases ks with
    | nil => simp [KsOf] at hk
    | cons k0 ks =>
      simp only [KsOf, List.map_cons, List.cons.injEq] at hk
      rw [List.mem_cons, not_or] at hn
      rw [List.map_cons, ih hk.2 hn.2, if_neg]
      intro z
      have z : kdOf [] pr.1 = some q := z
      rw [hk.1] at z
      cases z
      exact hn.1 rfl
theorem rpE_mod {acc : List (D × D)} {l : List DictEntry} {ks : List NestedKey} {j : Nat} {d : D} {v : V} {vv : Value} {q : NestedKey} (h : RpE p K H acc l) (hk : KsOf (acc.map (·.1)) ks) (nd : ks.Nodup) (hj : ks[j]? = some q) (rv : RelV v vv) (hv : Rp p K H d v) : RpE p K H (acc.map fun pr => if kdOf T pr.1 = some q then (pr.1, d) else pr) (l.modify j fun x => { x with val := vv }) := by
  induction acc generalizing l ks j with
  | nil =>
    cases ks with
    | nil => simp at hj
    | cons _ _ => simp [KsOf] at hk
  | cons pr r ih =>
    obtain ⟨k0, d0⟩ := pr
    cases ks with
    | nil => simp [KsOf] at hk
    | cons k1 ks =>
      simp only [KsOf, List.map_cons, List.cons.injEq] at hk
      simp only [RpE] at h
      obtain ⟨e, l', u', v', q', e1, e2, e3, e4, e5, e6, e7, e8⟩ := h
      subst e1
      have nd' := List.nodup_cons.mp nd
      have hk1 : kdOf T k0 = some k1 := hk.1
      cases j with
      | zero =>
        simp at hj
        subst hj
        rw [List.map_cons, if_pos hk1, map_id_of hk.2 nd'.1]
        simp only [List.modify_zero_cons, RpE]
        exact ⟨_, l', u', v, q', rfl, e2, e3, e4, e5, rv, hv, e8⟩
      | succ j =>
        simp at hj
        have hne : ¬ kdOf T k0 = some q := fun z => by
          rw [hk1] at z
          cases z
          exact nd'.1 (List.mem_of_getElem? hj)
        rw [List.map_cons, if_neg hne]
        simp only [List.modify_succ_cons, RpE]
        exact ⟨e, _, u', v', q', rfl, e2, e3, e4, e5, e6, e7, ih e8 hk.2 nd'.2 hj⟩
theorem keys_map {acc : List (D × D)} {q : NestedKey} {d : D} : (acc.map fun pr => if kdOf T pr.1 = some q then (pr.1, d) else pr).map (·.1) = acc.map (·.1) := by
  rw [List.map_map]
  congr 1
  funext pr
  simp only [Function.comp]
  split <;> rfl
theorem ndK_snoc {acc : List D} {ks : List NestedKey} {k : D} {q : NestedKey} (hk : KsOf acc ks) (nd : NdK acc) (e : kdOf [] k = some q) (hn : q ∉ ks) : NdK (acc ++ [k]) := by
  unfold NdK at nd ⊢
  unfold KsOf at hk
  rw [List.map_append, hk, List.map_cons, List.map_nil, e, List.nodup_append]
  rw [hk] at nd
  refine ⟨nd, by simp, fun a ha b hb => ?_⟩
  rw [List.mem_singleton] at hb
  subst hb
  obtain ⟨x, hx, rfl⟩ := List.mem_map.mp ha
  intro z
  cases z
  exact hn hx
/-- a pair is put: what becomes of the entries -/
theorem rpE_put {acc : List (D × D)} {l : List DictEntry} {ks : List NestedKey} {k d : D} {u v : V} {kv vv : Value} {q : NestedKey} (h : RpE p K H acc l) (hk : KsOf (acc.map (·.1)) ks) (nd : NdK (acc.map (·.1))) (h1 : Rp p K H k u) (h2 : RelV u kv) (h3 : kdOf T k = some q) (rv : RelV v vv) (hv : Rp p K H d v) :
    (q ∉ ks → RpE p K H (putD T acc k q d) (l ++ [⟨q.hash p.w, kv, vv⟩]) ∧ NdK ((putD T acc k q d).map (·.1))) ∧ ∀ (j : Nat), ks[j]? = some q → RpE p K H (putD T acc k q d) (l.modify j fun x => { x with val := vv }) ∧ NdK ((putD T acc k q d).map (·.1)) := by
  refine ⟨fun hn => ?_, fun j hj => ?_⟩
  · rw [putD_new hk hn]
    refine ⟨rpE_snoc h h1 h2 h3 rv hv, ?_⟩
    rw [List.map_append]
    exact ndK_snoc hk nd h3 hn
  · unfold putD
    rw [if_pos (any_of hk hj)]
    refine ⟨rpE_mod h hk (hk.nodup nd) hj rv hv, ?_⟩
    rw [keys_map]
    exact nd
theorem putD_len {acc : List (D × D)} {k d : D} {q : NestedKey} : (putD T acc k q d).length ≤ acc.length + 1 := by
  unfold putD
  split <;> simp
theorem dop_app : ∀ {l : List (D × D)} {acc : List (D × D)} {k d : D}, dictOfPairs T acc (l ++ [(k, d)]) = (dictOfPairs T acc l).bind fun r => (kdOf T k).map fun q => putD T r k q d
  | [], acc, k, d => by
    simp only [List.nil_append, dictOfPairs, keyK, Option.bind_some]
    cases kdOf T k <;> rfl
  | (k0, d0) :: r, acc, k, d => by
    simp only [List.cons_append, dictOfPairs, keyK]
    cases kdOf T k0 with
    | none => rfl
    | some q0 =>
      simp only [Option.bind_some]
      exact dop_app
theorem dop_len : ∀ {l acc res : List (D × D)}, dictOfPairs T acc l = some res → res.length ≤ acc.length + l.length
  | [], acc, res, h => by
    simp only [dictOfPairs] at h
    cases h
    simp
  | (k0, d0) :: r, acc, res, h => by
    simp only [dictOfPairs, keyK] at h
    obtain ⟨q, _, h2⟩ := Option.bind_eq_some_iff.mp h
    have h3 := dop_len h2
    have h4 := putD_len (T := T) (acc := acc) (k := k0) (d := d0) (q := q)
    simp only [List.length_cons]
    omega
theorem dop_take {l : List (D × D)} {res : List (D × D)} (h : dictOfPairs T [] l = some res) (i : Nat) : ∃ acc, dictOfPairs T [] (l.take i) = some acc := by
  have key : ∀ (a b acc : List (D × D)) (res : List (D × D)), dictOfPairs T acc (a ++ b) = some res → ∃ r, dictOfPairs T acc a = some r := by
    intro a
    induction a with
    | nil => exact fun b acc res _ => ⟨acc, rfl⟩
    | cons x xs ih =>
      intro b acc res h
      simp only [List.cons_append, dictOfPairs] at h ⊢
      obtain ⟨q, e1, e2⟩ := Option.bind_eq_some_iff.mp h
      rw [e1]
      exact ih b _ res e2
  rw [← List.take_append_drop i l] at h
  exact key _ _ _ _ h
end
section
variable {X : Cx} {T : List D}
/-- pairs of a key and a value, laid as tuples: addresses, values -/
inductive PrsAt (p : PrW) (K : PySem.W.Frag) (H : Hp) : List (D × D) → List Addr → List (V × V) → Prop
  | nil : PrsAt p K H [] [] []
  | cons {k d : D} {u v : V} {a : Addr} {l : List (D × D)} {as : List Addr} {kk : List (V × V)} (h : SqT K H a [u, v]) (hk : Rp p K H k u) (hv : Rp p K H d v) (t : PrsAt p K H l as kk) : PrsAt p K H ((k, d) :: l) (a :: as) ((u, v) :: kk)
theorem prs_of {p : PrW} {K : PySem.W.Frag} {H : Hp} : ∀ {ds : List D} {vs : List V} {l : List (D × D)}, RpA p K H ds vs → toPairs ds = some l → ∃ as kk, vs = as.map V.ref ∧ PrsAt p K H l as kk
  | [], _, _, h, e => by
    simp only [RpA] at h
    simp only [toPairs] at e
    cases e
    exact ⟨[], [], h, .nil⟩
  | d :: ds, _, l, h, e => by
    simp only [RpA] at h
    obtain ⟨v, vs, ev, h1, h2⟩ := h
    cases d with
    | tuple ts =>
      match ts, h1, e with
      | [dk, dv], h1, e =>
        simp only [toPairs, Option.map_eq_some_iff] at e
        obtain ⟨l', e1, e2⟩ := e
        subst e2
        obtain ⟨as, kk, e3, pr⟩ := prs_of h2 e1
        obtain ⟨a, xs, ea, t, r⟩ := rpTup.mp h1
        obtain ⟨x1, x2, ex, r1, r2⟩ := RpA.two r
        subst ex
        exact ⟨a :: as, (x1, x2) :: kk, by rw [ev, ea, e3]; rfl, .cons t.sq r1 r2 pr⟩
      | [], _, e => simp [toPairs] at e
      | [_], _, e => simp [toPairs] at e
      | _ :: _ :: _ :: _, _, e => simp [toPairs] at e
    | _ => simp [toPairs] at e
/-- the machine's side of such pairs -/
theorem prs_vals {pins : List (Addr × Obj)} {s : Shared} {σ : L2.St} {p : PrW} {H : Hp} (I : Inv X pins σ H s) : ∀ {l : List (D × D)} {as : List Addr} {kk : List (V × V)}, PrsAt p X.K H l as kk →
    ∃ (ps : List (Value × Value)), ps.length = as.length ∧ l.length = as.length ∧ ∀ (j : Nat) (x y : Value), ps[j]? = some (x, y) → ∃ (a : Addr) (k d : D) (u v : V), as[j]? = some a ∧ IsTup s.heap a #[x, y] ∧ l[j]? = some (k, d) ∧ RelV u x ∧ RelV v y ∧ Rp p X.K H k u ∧ Rp p X.K H d v
  | _, _, _, .nil => ⟨[], rfl, rfl, fun j x y e => by simp at e⟩
  | _, _, _, .cons (k := k) (d := d) (u := u) (v := v) (a := a) h1 hk hv t => by
    obtain ⟨ps, l1, l2, f⟩ := prs_vals I t
    obtain ⟨its, r, ht, _⟩ := I.tuple h1
    cases r with
    | cons r1 r2 =>
      cases r2 with
      | cons r2 r3 =>
        cases r3
        rename_i u1 u2
        refine ⟨(u1, u2) :: ps, by simp [l1], by simp [l2], fun j x y e => ?_⟩
        cases j with
        | zero =>
          simp at e
          obtain ⟨e1, e2⟩ := e
          subst e1 e2
          exact ⟨a, k, d, u, v, rfl, ht, rfl, r1, r2, hk, hv⟩
        | succ j =>
          obtain ⟨a', k', d', u', v', f1, f2⟩ := f j x y (by simpa using e)
          exact ⟨a', k', d', u', v', by simpa using f1, by simpa using f2⟩
theorem keyAt_up {h h' : Heap} {k : NestedKey} {v : Value} (hk : GD.KeyAt h k v) (up : ∀ b o, h.get? b = some o → h'.get? b = some o) : GD.KeyAt h' k v := ⟨NestedIs.at (fun b o _ _ e _ => up b o e) k v hk.1, hk.2⟩
theorem ents_up {w : World} {h h' : Heap} {l : List DictEntry} {ks : List NestedKey} (he : GD.Ents w h l ks) (up : ∀ b o, h.get? b = some o → h'.get? b = some o) : GD.Ents w h' l ks :=
  ⟨he.len, fun i e k h1 h2 => let ⟨g1, g2⟩ := he.at_ i e k h1 h2; ⟨keyAt_up g1 up, g2⟩⟩
/-- dict(pairs), whatever they are in -/
theorem dict_pairs {Ty : String} {a : Addr} {fp : List Addr} {OK : Heap → Prop} (c : Ctx X) {pins : List (Addr × Obj)} {s : Shared} {σ : L2.St} {H : Hp} {l res : List (D × D)} {ps : List (Value × Value)} {Q : VK} (I : Inv X pins σ H s) (pa : PairArg X.prog X.w Ty a fp [] ps.length (PairRel ps) OK) (ok : OK s.heap)
    (hp : ∀ (j : Nat) (x y : Value), ps[j]? = some (x, y) → ∃ (k d : D) (u v : V), l[j]? = some (k, d) ∧ RelV u x ∧ RelV v y ∧ Rp (pX X) X.K H k u ∧ Rp (pX X) X.K H d v) (hl : ps.length = l.length) (hz : l.length ≤ sizeLine) (e : dictOfPairs T [] l = some res) (g : Give (pX X) X.K H (.dict res) Q) :
    wpAny (model X.prog X.w) X.A (call (.type "dict") [.ref a]) (EP X pins σ Q) X.xe s := by
  have hu := c.hu
  refine call_dict_arg pa ok fun s1 hs1 hdf ok1 => ?_
  subst hs1
  have up0 : ∀ b o, s.heap.get? b = some o → (s.heap.push { cls := .type "dict", data := .dict #[] }).get? b = some o := fun b o e => Heap.get?_push_of_some _ e
  refine updateFrom_arg (A := X.A.in1) (Tab := fun i h => ∃ (acc : List (D × D)) (es : Array DictEntry), dictOfPairs T [] (l.take i) = some acc ∧ RpE (pX X) X.K H acc es.toList ∧ NdK (acc.map (·.1)) ∧ GD.RawD h s.heap.objs.size es ∧ ∀ b o, s.heap.get? b = some o → h.get? b = some o) pa .none (I.ok.hd c.calm) ok1 hdf ?_ ?_ ?_ ?_ ?_
  · exact ⟨[], #[], rfl, by simp only [RpE], List.nodup_nil, ⟨_, 0, Heap.get?_push_size _ rfl, ⟨rfl, rfl, rfl⟩, rfl⟩, up0⟩
  · rintro i h ⟨_, _, _, _, _, ⟨o, _, ho, _⟩, _⟩
    exact Heap.lt_size ho
  · rintro i h h' wr' hd hw ⟨acc, es, t1, t2, t3, ⟨o, ep, ho, t4⟩, t5⟩ hk
    refine ⟨acc, es, t1, t2, t3, ⟨o, ep, hk _ _ hd ho, t4⟩, fun b ob eb => hk b ob (fun hm => ?_) (t5 b ob eb)⟩
    rcases hw b hm with z | z
    · cases z
    · rw [up0 b ob eb] at z
      cases z
  · rintro i kx vx s' Q' E' hi hrel ⟨acc, es, t1, t2, t3, t4, t5⟩ _ hQ
    obtain ⟨k, d, u, v, h1, ru, rv, hk, hv⟩ := hp i kx vx hrel
    have et : l.take (i + 1) = l.take i ++ [(k, d)] := by rw [List.take_succ, h1]; rfl
    obtain ⟨r1, e1⟩ := dop_take e (i + 1)
    have e2 := e1
    rw [et, dop_app, t1, Option.bind_some] at e2
    obtain ⟨q, e3, e4⟩ := Option.map_eq_some_iff.mp e2
    subst e4
    obtain ⟨ks, hks⟩ := t2.keys.ks
    have he := ents_up (t2.keys.ents I hks) t5
    have hkey := keyAt_up (rp_keyAt I hk ru e3) t5
    have hlen : es.size ≤ sizeLine := by
      have z1 := t2.len
      rw [Array.length_toList] at z1
      have z2 := dop_len t1
      rw [List.length_take] at z2
      simp at z2
      omega
    obtain ⟨pn, po⟩ := rpE_put t2 hks t3 hk ru e3 rv hv
    refine GD.set_key (by simp only [Around.in1_units]; omega) hkey t4 he (hks.nodup t3) hlen (fun hn h' hr hs => ?_) fun j hj h' hr hs => ?_
    · obtain ⟨p1, p2⟩ := pn hn
      exact hQ h' _ ⟨_, _, e1, by simpa using p1, p2, hr, fun b ob eb => hs.extBut b ob (Nat.ne_of_lt (Heap.lt_size eb)) (t5 b ob eb)⟩ hs
    · obtain ⟨p1, p2⟩ := po j hj
      refine hQ h' _ ⟨_, _, e1, ?_, p2, hr, fun b ob eb => hs.extBut b ob (Nat.ne_of_lt (Heap.lt_size eb)) (t5 b ob eb)⟩ hs
      rw [Array.toList_modify]
      exact p1
  · rintro h' tk ⟨acc, es, t1, t2, t3, t4, t5⟩ hk
    rw [List.take_of_length_le (by omega), e] at t1
    cases t1
    have hlen : es.size ≤ sizeLine := by
      have z1 := t2.len
      rw [Array.length_toList] at z1
      have z2 := dop_len e
      simp at z2
      omega
    have hm : (s.heap.objs.size == sysModules) = false := beq_eq_false_iff_ne.mpr (Nat.ne_of_gt I.big)
    have I2 := I.laid (t' := tk) (h' := h') (a := s.heap.objs.size) (o := rawO s.heap.objs.size es) t5 (Nat.le_refl _) (by
      obtain ⟨o, ep, ho, r⟩ := t4
      refine ⟨⟨hm, hlen, o, ep, ho, r⟩, ⟨o, ho⟩, ?_⟩
      rintro h1 h2 ⟨z1, z2, o', ep', z3, z4⟩ k
      exact ⟨z1, z2, o', ep', k o' z3, z4⟩)
    refine ⟨rfl, EPseal ⟨.ref s.heap.objs.size, _, I2, rfl, s.heap.objs.size, _, rfl, upd_same, True.intro, fun od => ?_⟩⟩
    rw [upd_upd]
    refine g _ _ (same_new I.fresh) ?_
    simp only [Rp]
    exact ⟨s.heap.objs.size, rfl, .inl ⟨od, es, upd_same, RpE.keep (same_new I.fresh).kp _ _ t2, t3⟩⟩
theorem plain_tup {pins : List (Addr × Obj)} {s : Shared} {σ : L2.St} {H : Hp} {a : Addr} {as : List Addr} (I : Inv X pins σ H s) (t : TpT X.K H a (as.map V.ref)) : PySem.PlainSeq "tuple" s.heap a (as.map Value.ref).toArray := by
  rcases t with ⟨o, h5, h6⟩ | ⟨o, its, n, k1, k2, k3, k4, k5, k6⟩
  · obtain ⟨ho, hz, its, r', ob, hob, hcl, n, hdat⟩ := (show ObjOk X.prog X.w H s.heap a (.frz o (.tup (as.map V.ref))) from I.hok a _ h5)
    rw [ho] at hob
    cases hob
    have ei := refs_at r'
    subst ei
    exact ⟨o, n, ho, hcl, h6, hdat⟩
  · have ei := refs_at k6
    have e9 : its = (as.map Value.ref).toArray := by rw [← ei]
    exact ⟨o, n, I.kIn a o k1, k2, k3, by rw [k4, e9]⟩
theorem plain_lst {pins : List (Addr × Obj)} {s : Shared} {σ : L2.St} {H : Hp} {a : Addr} {as : List Addr} (I : Inv X pins σ H s) (t : FzL X.K H a (as.map V.ref)) : PySem.PlainSeq "list" s.heap a (as.map Value.ref).toArray := by
  obtain ⟨its, n, r, hl, _, e⟩ := t.exact (K := X.K) I
  have ei := refs_at r
  subst ei
  exact ⟨_, n, e, rfl, rfl, rfl⟩
/-- dict(a tuple or a list of pairs) -/
theorem call_dictD (c : Ctx X) (pins : List (Addr × Obj)) (s : Shared) (σ : L2.St) (H : Hp) (d : D) (r : D) (v : V) (u : Value) (Q : VK) (I : Inv X pins σ H s) (rv : RelV v u) (hd : Rp (pX X) X.K H d v) (e : biD T .dict [d] = some r) (g : Give (pX X) X.K H r Q) :
    wpAny (model X.prog X.w) X.A (call (.type "dict") [u]) (EP X pins σ Q) X.xe s := by
  cases d <;> simp only [biD] at e <;> try (cases e; done)
  · rename_i ds
    obtain ⟨l, e1, e2⟩ := Option.bind_eq_some_iff.mp e
    obtain ⟨res, e3, e4⟩ := Option.map_eq_some_iff.mp e2
    subst e4
    obtain ⟨a, xs, ev, t, rr⟩ := rpLst.mp hd
    subst ev
    cases rv
    obtain ⟨as, kk, ex, pr⟩ := prs_of rr e1
    subst ex
    obtain ⟨ps, l1, l2, f⟩ := prs_vals I pr
    have hz : l.length ≤ sizeLine := by
      obtain ⟨_, _, _, hz⟩ := I.list t.sq
      rw [l2]
      simpa using hz
    refine dict_pairs (T := T) c I (PairArg.list a (as.map Value.ref).toArray (fun j => as.getD j 0) ps) ⟨plain_lst I t, by simp [l1], fun j x y e => ?_⟩ (fun j x y e => ?_) (by rw [l1, l2]) hz e3 g
    · obtain ⟨a', _, _, _, _, f1, f2, _⟩ := f j x y e
      exact ⟨by simp [f1, List.getD_eq_getElem?_getD], .inl (by show s.heap.IsTuple (as.getD j 0) #[x, y]; rw [List.getD_eq_getElem?_getD, f1]; exact f2)⟩
    · obtain ⟨_, k, d, u, v, _, _, f3⟩ := f j x y e
      exact ⟨k, d, u, v, f3⟩
  · rename_i ds
    split at e
    · cases e
    obtain ⟨l, e1, e2⟩ := Option.bind_eq_some_iff.mp e
    obtain ⟨res, e3, e4⟩ := Option.map_eq_some_iff.mp e2
    subst e4
    obtain ⟨a, xs, ev, t, rr⟩ := rpTup.mp hd
    subst ev
    cases rv
    obtain ⟨as, kk, ex, pr⟩ := prs_of rr e1
    subst ex
    obtain ⟨ps, l1, l2, f⟩ := prs_vals I pr
    have hz : l.length ≤ sizeLine := by
      obtain ⟨_, _, _, hz⟩ := I.tuple t.sq
      rw [l2]
      simpa using hz
    refine dict_pairs (T := T) c I (PairArg.tuple a (as.map Value.ref).toArray (fun j => as.getD j 0) ps) ⟨plain_tup I t, by simp [l1], fun j x y e => ?_⟩ (fun j x y e => ?_) (by rw [l1, l2]) hz e3 g
    · obtain ⟨a', _, _, _, _, f1, f2, _⟩ := f j x y e
      exact ⟨by simp [f1, List.getD_eq_getElem?_getD], .inl (by show s.heap.IsTuple (as.getD j 0) #[x, y]; rw [List.getD_eq_getElem?_getD, f1]; exact f2)⟩
    · obtain ⟨_, k, d, u, v, _, _, f3⟩ := f j x y e
      exact ⟨k, d, u, v, f3⟩
end
end PL


set_option Elab.async false
set_option linter.all false
set_option maxRecDepth 100000
/-! PLh: what a loop goes through. -/
namespace PL
open PySem PySem.Spec PyProof.Rows L2
/-! ### enumerate of a tuple -/
def IteT (K : PySem.W.Frag) (a : Addr) : It :=
  ⟨fun i H => ∃ (xs : List V) (x : V), SqT K H a xs ∧ xs[i]? = some x, fun i H v H' => ∃ T x, v = .ref T ∧ H T = none ∧ H' = upd H T (.tup [.int (i : Nat), x]) ∧ ∀ xs, SqT K H a xs → xs[i]? = some x, fun i H => ∃ xs : List V, SqT K H a xs ∧ xs.length = i⟩
theorem turn_enumT {P : Program} {w : World} {K : PySem.W.Frag} {elts : List Expr} {kk : Nat} {tpos : Pos} (a e it : Addr) (hea : a ≠ it) (hea2 : a ≠ e) :
    Turn P w K (.Tuple elts kk tpos) (IteT K a) [e, it] e (fun i h => (∃ old, IsEnum h e it ((i : Nat) : Int) old) ∧ h.IsTupleIter it a i ∧ e ≠ it) where
  mem := by simp
  obj := fun i h st b hb => by
    obtain ⟨⟨old, he⟩, ⟨o, ho, hc, hd⟩, _⟩ := st
    have e' : b = e ∨ b = it := by simpa using hb
    rcases e' with z | z
    · rw [z]; exact ⟨_, he, fun v q => nomatch q⟩
    · rw [z]; exact ⟨o, ho, fun v q => by rw [hd] at q; cases q⟩
  keep := fun i h h' st k => let ⟨⟨old, he⟩, hi, hne⟩ := st; ⟨⟨old, k e (by simp) _ he⟩, hi.at fun o q => k it (by simp) o q, hne⟩
  item := by
    intro X hP hw hK hc i pins s σ H E I hf st hg
    subst hP hw hK
    obtain ⟨⟨old, he⟩, hit, hne⟩ := st
    obtain ⟨xs, x, hq, hx⟩ := hg
    obtain ⟨its, rv, p, hz⟩ := I.tuple hq
    obtain ⟨u, hu, ru⟩ := rv.get hx
    have hel : e < s.heap.objs.size := Heap.lt_size he
    have hil : it < s.heap.objs.size := by obtain ⟨_, q, _⟩ := hit; exact Heap.lt_size q
    have hlt : i < its.toArray.size := by
      have := (List.getElem?_eq_some_iff.mp hu).1
      simpa using this
    refine PySem.wpAny_pyNext_enum_itemD (Draws.tuple (A := X.A.in1) (by show X.A.handled = none; exact I.ok.hd hc) it a hea its.toArray) he ⟨hit, p⟩ hlt hne (by simp [hne, Ne.symm hea2]) fun x' h' tk hx' ho hs' hT hsz hk => ?_
    have hux : x' = u := by
      have h1 : its[i]? = some x' := by simpa using hx'
      rw [hu] at h1
      cases h1
      rfl
    subst hux
    refine ⟨_, rfl, wpAny_letOwnedTupleGo_enum (s := { s with heap := h', toks := tk + 1 }) ho fun h'' he' sb => ?_⟩
    have hT2 : h''.get? s.heap.objs.size = some { cls := .type "tuple", data := .seq #[.int i tk, x'] } := (sb.2 _ (Nat.ne_of_gt hel)).trans hT
    have new : ObjOk X.prog X.w (upd H s.heap.objs.size (.tup [.int (i : Nat), x])) h'' s.heap.objs.size (.tup [.int (i : Nat), x]) :=
      ⟨by show 2 ≤ sizeLine; decide, [.int i tk, x'], .cons ⟨_, rfl⟩ (.cons ru .nil), ⟨_, hT2, rfl, _, rfl⟩⟩
    have I1 : Inv X pins σ (upd H s.heap.objs.size (.tup [.int (i : Nat), x])) { s with heap := h'', toks := tk + 1 } :=
      I.turnedNew (ch := [e, it]) (fun b ob hb q => (sb.2 b (fun z => hb (by simp [z]))).trans (hk b ob (fun z => hb (by simp [z])) (fun z => hb (by simp [z])) q)) hf (Nat.le_refl _) new
    refine ⟨.ref s.heap.objs.size, _, I1, rfl, ⟨_, x, rfl, I.hok.fresh (Nat.le_refl _), rfl, fun ys hy => by rw [I.tuple_inj hy hq]; exact hx⟩, ⟨⟨x', ?_⟩, hs'.1.at fun o q => (sb.2 it (Ne.symm hne)).trans q, hne⟩, fun b hb => ?_⟩
    · have e1 : ((i + 1 : Nat) : Int) = (i : Int) + 1 := by omega
      rw [e1]; exact he'
    · have hb' : b < s.heap.objs.size := by
        have e' : b = e ∨ b = it := by simpa using hb
        rcases e' with z | z
        · rw [z]; exact hel
        · rw [z]; exact hil
      rw [upd_ne (Nat.ne_of_lt hb')]
      exact (hf b hb).1
  done := by
    intro X hP hw hK hc i pins s σ H E I hf st hg
    subst hP hw hK
    obtain ⟨⟨old, he⟩, hit, hne⟩ := st
    obtain ⟨xs, hq, hx⟩ := hg
    obtain ⟨its, rv, p, hz⟩ := I.tuple hq
    obtain ⟨f0, f1, f2, f3, f4, f5⟩ := hf it (by simp)
    have hl := rv.length
    have e2 : i = its.toArray.size := by rw [List.size_toArray, ← hl]; exact hx.symm
    refine PySem.wpAny_pyNext_enum_endD (Draws.tuple (A := X.A.in1) (by show X.A.handled = none; exact I.ok.hd hc) it a hea its.toArray) he ⟨by rw [← e2]; exact hit, p⟩ fun h' eb => ⟨rfl, I.turned (t' := s.toks) (fun b o hb q => eb b o hb q) f0 f1 f3 f4 f5⟩
  self := fun A i s Q E st h => let ⟨⟨_, he⟩, _⟩ := st; wpAny_pyIter_enum he h
/-- enumerate(a tuple) -/
theorem enum_newT (l : Addr) (its : Array Value) : Meets (Builtin.«enumerate.__new__» ⟨[.type "enumerate", .ref l], []⟩) (fun _ R s => s.heap.IsTuple l its ∧
      R (.ok (.ret (.ref (s.heap.objs.size + 1)))) { s with heap := (s.heap.push { cls := .type "tuple_iterator", data := .fields #[.ref l, .int 0 0] }).push { cls := .type "enumerate", data := .fields #[.none, .bool false, .ref s.heap.objs.size, rawInt 0, .none, .none] } }) :=
  .of_wp fun prog w A R s h => by
    obtain ⟨hp, g, d, tk, os⟩ := s; obtain ⟨h1, h⟩ := h
    have hsub := sub_enumerate
    have hz : (hp.push { cls := .type "tuple_iterator", data := .fields #[.ref l, .int 0 0] }).objs.size = hp.objs.size + 1 := Heap.size_push ..
    have q1 : ∀ {A' : Around} {E : Value → Shared → Prop} {Q : Value → Shared → Prop}, Q (.ref hp.objs.size) ⟨hp.push { cls := .type "tuple_iterator", data := .fields #[.ref l, .int 0 0] }, g, d, tk, os⟩ → wpAny (model prog w) A' (pyIter (.ref l)) Q E ⟨hp, g, d, tk, os⟩ :=
      fun q => (begins_tuple l its).iter prog w _ _ ⟨hp, g, d, tk, os⟩ _ h1 q
    wp_walk using q1
    refine wpAny_stack_any fun st => wpAny_pure ?_
    split
    · rename_i c _ _ _ _ _
      cases hcc : (c == Value.type "enumerate")
      all_goals
        wp_walk using q1
        refine ⟨_, rfl, ?_⟩
        first | (rw [hz]; exact h) | exact h
    · wp_walk using q1
      refine ⟨_, rfl, ?_⟩
      first | (rw [hz]; exact h) | exact h
theorem enum_tup {prog : Program} {w : World} {A : Around} {E : Value → Shared → Prop} {s : Shared} {l : Addr} {its : Array Value} {Q : Value → Shared → Prop} (h1 : s.heap.IsTuple l its)
    (h : ∀ h', IsEnum h' (s.heap.objs.size + 1) s.heap.objs.size 0 .none → h'.IsTupleIter s.heap.objs.size l 0 → (∀ b o, s.heap.get? b = some o → h'.get? b = some o) → Q (.ref (s.heap.objs.size + 1)) { s with heap := h' }) :
    wpAny (model prog w) A (call (.type "enumerate") [.ref l]) Q E s := by
  refine callType_new F.called_enumerate (by decide) (F.typeCall_enumerate_1 _) (F.newCall_enumerate_1 _) (fun obj => F.args_object_init_2 obj _) F.entry_enumerate_new (enum_newT l its) ⟨h1, ?_⟩
  have hz : (s.heap.push { cls := .type "tuple_iterator", data := .fields #[.ref l, .int 0 0] }).objs.size = s.heap.objs.size + 1 := Heap.size_push ..
  have he : IsEnum ((s.heap.push { cls := .type "tuple_iterator", data := .fields #[.ref l, .int 0 0] }).push { cls := .type "enumerate", data := .fields #[.none, .bool false, .ref s.heap.objs.size, rawInt 0, .none, .none] }) (s.heap.objs.size + 1) s.heap.objs.size 0 .none := by
    have q := Heap.get?_push_size (s.heap.push { cls := .type "tuple_iterator", data := .fields #[.ref l, .int 0 0] }) (o := { cls := .type "enumerate", data := .fields #[.none, .bool false, .ref s.heap.objs.size, rawInt 0, .none, .none] }) rfl
    rw [hz] at q
    exact q
  exact ⟨⟨_, he, rfl⟩, h _ he ⟨_, Heap.get?_push_of_some _ (Heap.get?_push_size _ rfl), rfl, rfl⟩ fun b o x => Heap.get?_push_of_some _ (Heap.get?_push_of_some _ x)⟩
def iEnumT (K : PySem.W.Frag) (ta : TA) : TI := fun σ H R => ta σ H fun vs H1 => ∃ a xs, vs = [.ref a] ∧ SqT K H1 a xs ∧ R (IteT K a) H1
theorem pi_enumT {X : Cx} {e : Expr} {ta : TA} {p pos tpos : Pos} {elts : List Expr} {kk : Nat} (hg : Gl X "enumerate") (hm : X.mg "enumerate" = none) (ha : PA X [e] ta) (hs : starEach [e] X.env = [(false, eval e X.env)] := by rfl) :
    PI X (.Tuple elts kk tpos) (.Call (.Name "enumerate" p) [e] [] pos) (iEnumT X.K ta) := by
  refine ⟨fun pins s σ H R I h => ?_⟩
  refine Call_ (ld_blt I hg hm boot_enumerate (PyProof.Rows.callWith_type1 (thn (ha.run pos pins s σ H _ I h) fun us s1 ⟨vs, H1, I1, r1, q1⟩ => ?_) hs rfl))
  obtain ⟨a, xs, ex, hq, q⟩ := q1
  subst ex
  cases r1 with
  | cons r rr =>
    cases rr
    cases r
    obtain ⟨its, rv, p', hz⟩ := I1.tuple hq
    have hal : a < s1.heap.objs.size := by
      obtain ⟨o, ho, _⟩ := p'
      exact Heap.lt_size ho
    refine enum_tup p' fun h' he hit hk => wpAny_pyIter_enum he ?_
    have I2 : Inv X pins σ H1 { s1 with heap := h' } := I1.kept (t' := s1.toks) hk
    refine ⟨s1.heap.objs.size + 1, [s1.heap.objs.size + 1, s1.heap.objs.size], _, _, H1, rfl, I2, turn_enumT a (s1.heap.objs.size + 1) s1.heap.objs.size (Nat.ne_of_lt hal) (Nat.ne_of_lt (Nat.lt_succ_of_lt hal)), ⟨⟨.none, he⟩, hit, Nat.succ_ne_self _⟩, fun b hb => ?_, q⟩
    have hle : s1.heap.objs.size ≤ b := by
      have e' : b = s1.heap.objs.size + 1 ∨ b = s1.heap.objs.size := by simpa using hb
      rcases e' with z | z
      · rw [z]; exact Nat.le_add_right _ _
      · rw [z]; exact Nat.le_refl _
    exact I1.fpOk hle (I1.hok.fresh hle)
theorem walk_enumT {K : PySem.W.Frag} {a : Addr} {xs : List V} : Walk (IteT K a) xs.length (fun H => SqT K H a xs) (YPair (fun i => some (.int (i : Nat))) (fun i => xs[i]?)) := by
  refine ⟨fun i H hi g => ⟨xs, xs[i], g, by simp [hi]⟩, fun H g => ⟨xs, g, rfl⟩, fun i H x H' hi g y => ?_⟩
  obtain ⟨T, x', e1, e2, e3, e4⟩ := y
  exact ⟨T, _, _, e1, e2, e3, rfl, e4 xs g⟩
end PL


set_option Elab.async false
set_option linter.all false
set_option maxRecDepth 100000
/-! PLi: patterns; what a loop goes through, by values. -/
namespace PL
open PySem PySem.Spec PyProof.Rows L2
/-- the static context of a def -/
structure Sx (X : Cx)  (N : List Str) (sc : Scope) : Prop where
  ctx : Ctx X
  hN : X.N = N
  sc : X.env.scope = sc
  fnx : ∀ x, Loc X.env.scope x → X.fn x = true ∨ X.env.scope.names.lookup x = some .local
/-- x is v, or x is a new pair -/
def Yd (p : PrW) (K : PySem.W.Frag) (H : Hp) (d : D) (x : V) : Prop := Rp p K H d x ∨ ∃ a b t u v, d = .tuple [a, b] ∧ x = .ref t ∧ H t = some (.tup [u, v]) ∧ Rp p K H a u ∧ Rp p K H b v
def OwSub (ρ ρ' : En) (σ σ' : L2.St) : Prop := ∀ (i : Nat) (s : Sl), ρ'[i]? = some s → s.own = true → ρ[i]? = some s ∧ σ'[i]? = σ[i]?
theorem OwSub.refl (ρ : En) (σ : L2.St) : OwSub ρ ρ σ σ := fun _ _ h _ => ⟨h, rfl⟩
theorem OwSub.trans {ρ ρ1 ρ2 : En} {σ σ1 σ2 : L2.St} (a : OwSub ρ ρ1 σ σ1) (b : OwSub ρ1 ρ2 σ1 σ2) : OwSub ρ ρ2 σ σ2 := fun i d h o =>
  let ⟨h1, e1⟩ := b i d h o
  let ⟨h2, e2⟩ := a i d h1 o
  ⟨h2, e1.trans e2⟩
theorem OwSub.set {ρ : En} {σ : L2.St} {i : Nat} {d : D} {o : Option V} : OwSub ρ (ρ.set i (.fz d)) σ (σ.set i o) := fun j s h ho => by
  by_cases hj : i = j
  · subst hj
    by_cases hi : i < ρ.length
    · rw [List.getElem?_set_self hi] at h
      cases h
      cases ho
    · rw [List.getElem?_eq_none (by simpa using hi)] at h
      cases h
  · rw [List.getElem?_set_ne hj] at h
    exact ⟨h, List.getElem?_set_ne hj⟩
/-- the slots of a pattern -/
def Pat.vars : Pat → List Nat
  | .v i => [i]
  | .nil => []
  | .cons p ps => p.vars ++ ps.vars
/-- apart from the pattern's slots the frame stays -/
def Agr (P : Pat) (σ σ' : L2.St) : Prop := σ'.length = σ.length ∧ ∀ j, j ∉ P.vars → σ'[j]? = σ[j]?
/-- what a target takes -/
def tP (p : PrW) (K : PySem.W.Frag) (P : Pat) : TG := fun v σ H Q => ∃ ρ d ρ', EnvOk p K H ρ σ ∧ Rp p K H d v ∧ bindP P d ρ = some ρ' ∧ ∀ σ', EnvOk p K H ρ' σ' → OwSub ρ ρ' σ σ' → Agr P σ σ' → Q σ' H
def tY (p : PrW) (K : PySem.W.Frag) (P : Pat) : TG := fun v σ H Q => ∃ ρ d ρ', EnvOk p K H ρ σ ∧ Yd p K H d v ∧ bindP P d ρ = some ρ' ∧ ∀ σ', EnvOk p K H ρ' σ' → OwSub ρ ρ' σ σ' → Agr P σ σ' → Q σ' H
def tZ (p : PrW) (K : PySem.W.Frag) (y : Bool) (P : Pat) : TG := fun v σ H Q => ∃ ρ d ρ', EnvOk p K H ρ σ ∧ (Rp p K H d v ∨ (y = true ∧ Yd p K H d v)) ∧ bindP P d ρ = some ρ' ∧ ∀ σ', EnvOk p K H ρ' σ' → OwSub ρ ρ' σ σ' → Agr P σ σ' → Q σ' H
def tPs (p : PrW) (K : PySem.W.Frag) (P : Pat) : TGs := fun vs σ H Q => ∃ ρ ds ρ', EnvOk p K H ρ σ ∧ RpA p K H ds vs ∧ bindP P (.tuple ds) ρ = some ρ' ∧ ∀ σ', EnvOk p K H ρ' σ' → OwSub ρ ρ' σ σ' → Agr P σ σ' → Q σ' H
section
variable {X : Cx}
theorem PGwk2 {tg : Expr} {t t' : TG} (h : PG X tg t) (w : ∀ v σ H Q, t' v σ H Q → t v σ H Q) : PG X tg t' := ⟨fun pins s σ H v u Q I r q => h.run pins s σ H v u Q I r (w v σ H Q q)⟩
theorem rg_name {N : List Str} {sc : Scope} (S : Sx X N sc) {i : Nat} {x : Str} {pos : Pos} (hi : X.N[i]? = some x) (hx : Loc X.env.scope x) : PG X (.Name x pos) (tP (pX X) X.K (.v i)) := by
  refine PGwk2 (pg_name S.ctx.nd hi hx (S.fnx x hx)) fun v σ H Q ⟨ρ, d, ρ', E, r, e, q⟩ => ?_
  simp only [bindP] at e
  cases e
  exact q _ (E.set r) OwSub.set ⟨by simp, fun j hj => List.getElem?_set_ne (fun z => hj (by simp [Pat.vars, z]))⟩
theorem unp_lst {d : D} {ds : List D} (h : unpD d = some ds) : d = .tuple ds ∨ d = .list ds := by
  cases d <;> simp only [unpD] at h <;> first | (cases h; done) | (cases h; first | exact .inl rfl | exact .inr rfl)
theorem bindP_unp {P : Pat} (hP : ∀ i, P ≠ .v i) {d : D} {ds : List D} {ρ : En} (h : unpD d = some ds) : bindP P d ρ = bindP P (.tuple ds) ρ := by
  cases P with
  | v i => exact absurd rfl (hP i)
  | nil => simp only [bindP, h, show unpD (.tuple ds) = some ds from rfl]
  | cons p ps => simp only [bindP, h, show unpD (.tuple ds) = some ds from rfl]
/-- the pattern's length -/
def Pat.len : Pat → Nat
  | .cons _ ps => ps.len + 1
  | _ => 0
/-- a chain of targets -/
def Pat.isCh : Pat → Bool
  | .nil => true
  | .cons _ ps => ps.isCh
  | .v _ => false
theorem bindP_len : ∀ {P : Pat} {ds : List D} {ρ ρ' : En}, P.isCh = true → bindP P (.tuple ds) ρ = some ρ' → ds.length = P.len
  | .nil, ds, ρ, ρ', _, h => by
    simp only [bindP, unpD] at h
    cases ds with
    | nil => rfl
    | cons d r => cases h
  | .cons p ps, ds, ρ, ρ', hc, h => by
    simp only [bindP, unpD] at h
    cases ds with
    | nil => cases h
    | cons d r =>
      simp only at h
      obtain ⟨ρ1, e1, e2⟩ := Option.bind_eq_some_iff.mp h
      simp [Pat.len, bindP_len (P := ps) hc e2]
  | .v i, _, _, _, hc, _ => by cases hc
/-- a tuple of targets -/
theorem rg_tup {N : List Str} {sc : Scope} (S : Sx X N sc) {es : List Expr} {k : Nat} {pos : Pos} {P : Pat} (hc : P.isCh = true) (h : PGs X es (tPs (pX X) X.K P)) (hn : (assignEach es X.env).length = P.len) (hst : (assignEach es X.env).findIdx? (·.1) = none) :
    PG X (.Tuple es k pos) (tY (pX X) X.K P) := by
  have hP : ∀ i, P ≠ .v i := fun i z => by subst z; cases hc
  refine ⟨fun pins s σ H v u Q I r ⟨ρ, d, ρ', E, y, e, q⟩ => ?_⟩
  have hu : ∃ ds, unpD d = some ds := by
    cases hd : unpD d with
    | some ds => exact ⟨ds, rfl⟩
    | none =>
      cases P with
      | v i => exact absurd rfl (hP i)
      | nil => simp [bindP, hd] at e
      | cons p ps => simp [bindP, hd] at e
  obtain ⟨ds, hu⟩ := hu
  rw [bindP_unp hP hu] at e
  have hl := bindP_len hc e
  rcases y with y | ⟨a, b, t, x1, x2, e1, e2, e3, r1, r2⟩
  · rcases unp_lst hu with z | z
    · subst z
      obtain ⟨a, xs, ev, h1, h2⟩ := rpTup.mp y
      exact (pg_tup S.ctx.calm h hn hst).run pins s σ H v u Q I r ⟨a, xs, ev, h1.sq, by rw [h2.len, hl], ρ, ds, ρ', E, h2, e, q⟩
    · subst z
      obtain ⟨a, xs, ev, h1, h2⟩ := rpLst.mp y
      exact (pg_lst S.ctx.calm h hn hst).run pins s σ H v u Q I r ⟨a, xs, ev, h1.sq, by rw [h2.len, hl], ρ, ds, ρ', E, h2, e, q⟩
  · subst e1
    simp only [unpD] at hu
    cases hu
    exact (pg_tup S.ctx.calm h hn hst).run pins s σ H v u Q I r ⟨t, [x1, x2], e2, .of e3, by rw [← hl]; rfl, ρ, _, ρ', E, .cons r1 (.cons r2 .nil), e, q⟩
theorem rg_yp {tg : Expr} {P : Pat} (h : PG X tg (tY (pX X) X.K P)) : PG X tg (tP (pX X) X.K P) := PGwk2 h fun v σ H Q ⟨ρ, d, ρ', E, y, e, q⟩ => ⟨ρ, d, ρ', E, .inl y, e, q⟩
theorem rgs_nil : PGs X [] (tPs (pX X) X.K .nil) := ⟨fun pins s σ H vs us Q I r ⟨ρ, ds, ρ', E, y, e, q⟩ => by
  simp only [bindP, unpD] at e
  cases ds with
  | nil =>
    cases e
    simp only [RpA] at y
    exact (pgs_nil (X := X)).run pins s σ H vs us Q I r ⟨y, q _ E (OwSub.refl _ _) ⟨rfl, fun _ _ => rfl⟩⟩
  | cons d r => cases e⟩
theorem rgs_cons {e : Expr} {es : List Expr} {p ps : Pat} (h1 : PG X e (tP (pX X) X.K p)) (h2 : PGs X es (tPs (pX X) X.K ps)) (hs : (assignEach (e :: es) X.env).map (·.2) = assign e X.env :: (assignEach es X.env).map (·.2)) : PGs X (e :: es) (tPs (pX X) X.K (.cons p ps)) := by
  refine ⟨fun pins s σ H vs us Q I r ⟨ρ, ds, ρ', E, y, e', q⟩ => ?_⟩
  refine (pgs_cons h1 h2 hs).run pins s σ H vs us Q I r ?_
  simp only [bindP, unpD] at e'
  cases ds with
  | nil => cases e'
  | cons d ds =>
    simp only at e'
    obtain ⟨ρ1, e1, e2⟩ := Option.bind_eq_some_iff.mp e'
    simp only [RpA] at y
    obtain ⟨v, vr, ev, r1, r2⟩ := y
    exact ⟨v, vr, ev, ρ, d, ρ1, E, r1, e1, fun σ1 E1 o1 a1 => ⟨ρ1, ds, ρ', E1, r2, e2, fun σ2 E2 o2 a2 => q _ E2 (o1.trans o2) ⟨a2.1.trans a1.1, fun j hj => (a2.2 j fun z => hj (List.mem_append_right _ z)).trans (a1.2 j fun z => hj (List.mem_append_left _ z))⟩⟩⟩

theorem rg_z {tg : Expr} {P : Pat} (h : PG X tg (tP (pX X) X.K P)) : PG X tg (tZ (pX X) X.K false P) := PGwk2 h fun v σ H Q ⟨ρ, d, ρ', E, y, e, q⟩ => ⟨ρ, d, ρ', E, y.elim id fun z => absurd z.1 Bool.false_ne_true, e, q⟩
theorem rg_zy {tg : Expr} {P : Pat} {b : Bool} (h : PG X tg (tY (pX X) X.K P)) : PG X tg (tZ (pX X) X.K b P) := PGwk2 h fun v σ H Q ⟨ρ, d, ρ', E, y, e, q⟩ => ⟨ρ, d, ρ', E, y.elim .inl fun z => z.2, e, q⟩
/-! ### iterations -/
structure Gives (p : PrW) (K : PySem.W.Frag) (J : It) (H0 : Hp) (ds : List D) (y : Bool) : Prop where
  sz : ds.length ≤ sizeLine
  walk : ∃ (G : Hp → Prop) (Y : Nat → Hp → V → Hp → Prop), Walk J ds.length G Y ∧ (∀ H, Kp H0 H → G H) ∧ ∀ i H x H' d, Kp H0 H → ds[i]? = some d → Y i H x H' → Same H H' ∧ (Rp p K H' d x ∨ (y = true ∧ Yd p K H' d x))
def tI (p : PrW) (K : PySem.W.Frag) (f : RE (List D)) (y : Bool) : TI := fun σ H R => ∃ ρ ds, EnvOk p K H ρ σ ∧ f ρ = some ds ∧ ∀ J H', Same H H' → Gives p K J H' ds y → R J H'
theorem map_get {α β : Type} {f : α → β} {l : List α} {i : Nat} {b : β} (h : (l.map f)[i]? = some b) : ∃ a, l[i]? = some a ∧ f a = b := by
  rw [List.getElem?_map] at h
  exact Option.map_eq_some_iff.mp h
theorem range_get {n i j : Nat} (h : (List.range n)[i]? = some j) : j = i := by
  obtain ⟨h1, h2⟩ := List.getElem?_eq_some_iff.mp h
  rw [List.getElem_range] at h2
  exact h2.symm
theorem Kp.sqL {K : PySem.W.Frag} {H H' : Hp} {a : Addr} {xs : List V} (k : Kp H H') (h : FzL K H a xs) : SqL K H' a xs := (k.fzL h).sq
theorem gv_list {p : PrW} {K : PySem.W.Frag} {H : Hp} {a : Addr} {xs : List V} {ds : List D} (z : xs.length ≤ sizeLine) (h : FzL K H a xs) (r : RpA p K H ds xs) : Gives p K (Itl K a) H ds false := by
  refine ⟨by rw [← r.len]; exact z, _, _, by rw [← r.len]; exact walk_list, fun H' k => k.sqL h, fun i H1 x H2 d k e y => ?_⟩
  obtain ⟨e1, e2⟩ := y
  subst e1
  obtain ⟨v, e3, r3⟩ := r.get e
  rw [e2] at e3
  cases e3
  exact ⟨Same.refl _, .inl (Rp.keep k _ _ r3)⟩
theorem gv_tup {p : PrW} {K : PySem.W.Frag} {H : Hp} {a : Addr} {xs : List V} {ds : List D} (z : xs.length ≤ sizeLine) (h : TpT K H a xs) (r : RpA p K H ds xs) : Gives p K (Itt K a) H ds false := by
  refine ⟨by rw [← r.len]; exact z, _, _, by rw [← r.len]; exact walk_tup, fun H' k => (k.sqT h).sq, fun i H1 x H2 d k e y => ?_⟩
  obtain ⟨e1, e2⟩ := y
  subst e1
  obtain ⟨v, e3, r3⟩ := r.get e
  rw [e2] at e3
  cases e3
  exact ⟨Same.refl _, .inl (Rp.keep k _ _ r3)⟩
theorem relV_inj {x y : V} {u : Value} (h1 : RelV x u) (h2 : RelV y u) : x = y := by
  cases u <;> cases x <;> cases y <;> simp only [L2.RelV] at h1 h2 <;> first
    | rfl
    | (cases h1; done)
    | (cases h2; done)
    | (obtain ⟨_, h1⟩ := h1; obtain ⟨_, h2⟩ := h2; cases h1; cases h2; rfl)
    | (cases h1; cases h2; rfl)
    | (obtain ⟨_, h1⟩ := h1; cases h1; done)
    | (obtain ⟨_, h2⟩ := h2; cases h2; done)
theorem arr_at {es : Array DictEntry} {i : Nat} {e : DictEntry} (h : es.toList[i]? = some e) : es[i]? = some e := by
  rw [← Array.getElem?_toList]
  exact h
theorem walk_K {p : PrW} {K : PySem.W.Frag} {H0 : Hp} {d : Addr} {o : Obj} {es : Array DictEntry} {kvs : List (D × D)} (r : RpE p K H0 kvs es.toList) : Walk (ItK d o es) kvs.length (fun H => H d = some (.frz o (rawO d es))) (fun i H x H' => H' = H ∧ ∃ e, es[i]? = some e ∧ RelV x e.key) := by
  have hl : es.size = kvs.length := by have := r.len; rw [Array.length_toList] at this; exact this
  refine ⟨fun i _ hi q => ⟨q, ?_⟩, fun _ q => ⟨q, by omega⟩, fun _ _ _ _ _ _ y => y⟩
  obtain ⟨e, u, v, h1, h2, _⟩ := r.at (k := kvs[i].1) (d := kvs[i].2) (List.getElem?_eq_getElem hi)
  exact ⟨u, e, arr_at h1, h2⟩
theorem walk_D {p : PrW} {K : PySem.W.Frag} {H0 : Hp} {d : Addr} {o : Obj} {es : Array DictEntry} {kvs : List (D × D)} (r : RpE p K H0 kvs es.toList) : Walk (ItD d o es) kvs.length (fun H => H d = some (.frz o (rawO d es))) (fun i H x H' => H' = H ∧ ∃ e, es[i]? = some e ∧ RelV x e.val) := by
  have hl : es.size = kvs.length := by have := r.len; rw [Array.length_toList] at this; exact this
  refine ⟨fun i _ hi q => ⟨q, ?_⟩, fun _ q => ⟨q, by omega⟩, fun _ _ _ _ _ _ y => y⟩
  obtain ⟨e, u, v, h1, _, _, h2, _⟩ := r.at (k := kvs[i].1) (d := kvs[i].2) (List.getElem?_eq_getElem hi)
  exact ⟨v, e, arr_at h1, h2⟩
theorem walk_I {p : PrW} {K : PySem.W.Frag} {H0 : Hp} {d : Addr} {o : Obj} {es : Array DictEntry} {kvs : List (D × D)} (r : RpE p K H0 kvs es.toList) : Walk (ItI d o es) kvs.length (fun H => H d = some (.frz o (rawO d es))) (fun i H z H' => ∃ a od x y e, es[i]? = some e ∧ RelV x e.key ∧ RelV y e.val ∧ z = .ref a ∧ H a = none ∧ od.dict = none ∧ H' = upd H a (.frz od (.tup [x, y]))) := by
  have hl : es.size = kvs.length := by have := r.len; rw [Array.length_toList] at this; exact this
  refine ⟨fun i _ hi q => ⟨q, ?_⟩, fun _ q => ⟨q, by omega⟩, fun _ _ _ _ _ _ y => y⟩
  obtain ⟨e, u, v, h1, h2, _, h3, _⟩ := r.at (k := kvs[i].1) (d := kvs[i].2) (List.getElem?_eq_getElem hi)
  exact ⟨u, v, e, arr_at h1, h2, h3⟩
theorem esz {p : PrW} {K : PySem.W.Frag} {H : Hp} {es : Array DictEntry} {kvs : List (D × D)} (r : RpE p K H kvs es.toList) : es.size = kvs.length := by
  have := r.len
  rw [Array.length_toList] at this
  exact this
theorem gv_keys {p : PrW} {K : PySem.W.Frag} {H : Hp} {a : Addr} {o : Obj} {kvs : List (D × D)} {es : Array DictEntry} (z : es.size ≤ sizeLine) (h : H a = some (.frz o (rawO a es))) (r : RpE p K H kvs es.toList) : Gives p K (ItK a o es) H (kvs.map (·.1)) false := by
  refine ⟨by rw [List.length_map, ← esz r]; exact z, _, _, by rw [List.length_map]; exact walk_K r, fun H' k => k.2 _ _ _ h, fun i H1 x H2 d k e y => ?_⟩
  obtain ⟨e1, en, e2, e3⟩ := y
  subst e1
  obtain ⟨⟨k0, d0⟩, e4, e5⟩ := map_get e
  obtain ⟨en', u, v, h1, h2, h3, _⟩ := r.at e4
  have h1 := arr_at h1
  rw [e2] at h1
  cases h1
  subst e5
  rw [relV_inj e3 h2]
  exact ⟨Same.refl _, .inl (Rp.keep k _ _ h3)⟩
theorem gv_vals {p : PrW} {K : PySem.W.Frag} {H : Hp} {a : Addr} {o : Obj} {kvs : List (D × D)} {es : Array DictEntry} (z : es.size ≤ sizeLine) (h : H a = some (.frz o (rawO a es))) (r : RpE p K H kvs es.toList) : Gives p K (ItD a o es) H (kvs.map (·.2)) false := by
  refine ⟨by rw [List.length_map, ← esz r]; exact z, _, _, by rw [List.length_map]; exact walk_D r, fun H' k => k.2 _ _ _ h, fun i H1 x H2 d k e y => ?_⟩
  obtain ⟨e1, en, e2, e3⟩ := y
  subst e1
  obtain ⟨⟨k0, d0⟩, e4, e5⟩ := map_get e
  obtain ⟨en', u, v, h1, _, _, h2, h3⟩ := r.at e4
  have h1 := arr_at h1
  rw [e2] at h1
  cases h1
  subst e5
  rw [relV_inj e3 h2]
  exact ⟨Same.refl _, .inl (Rp.keep k _ _ h3)⟩
theorem gv_items {p : PrW} {K : PySem.W.Frag} {H : Hp} {a : Addr} {o : Obj} {kvs : List (D × D)} {es : Array DictEntry} (z : es.size ≤ sizeLine) (h : H a = some (.frz o (rawO a es))) (r : RpE p K H kvs es.toList) : Gives p K (ItI a o es) H (kvs.map fun q => .tuple [q.1, q.2]) true := by
  refine ⟨by rw [List.length_map, ← esz r]; exact z, _, _, by rw [List.length_map]; exact walk_I r, fun H' k => k.2 _ _ _ h, fun i H1 x H2 d k e y => ?_⟩
  obtain ⟨T, od, kx, vx, en, e2, e3, e3', e6, e7, e8, e9⟩ := y
  obtain ⟨⟨k0, d0⟩, e4, e5⟩ := map_get e
  obtain ⟨en', u, v, h1, h2, h3, h4, h5⟩ := r.at e4
  have h1 := arr_at h1
  rw [e2] at h1
  cases h1
  subst e5 e6 e9
  have s := same_new (o := .frz od (.tup [kx, vx])) e7
  rw [relV_inj e3 h2, relV_inj e3' h4] at s ⊢
  exact ⟨s, .inl (rpTup.mpr ⟨T, [u, v], rfl, .inl ⟨od, upd_same, e8⟩, .cons (Rp.keep (k.trans s.kp) _ _ h3) (.cons (Rp.keep (k.trans s.kp) _ _ h5) .nil)⟩)⟩
theorem yd_new {p : PrW} {K : PySem.W.Frag} {H0 H H' : Hp} {T : Addr} {u v : V} {a b : D} (k : Kp H0 H) (hn : H T = none) (e : H' = upd H T (.tup [u, v])) (ra : Rp p K H0 a u) (rb : Rp p K H0 b v) : Same H H' ∧ Yd p K H' (.tuple [a, b]) (.ref T) := by
  subst e
  have s := same_new (o := .tup [u, v]) hn
  exact ⟨s, .inr ⟨a, b, T, u, v, rfl, rfl, upd_same, Rp.keep (k.trans s.kp) _ _ ra, Rp.keep (k.trans s.kp) _ _ rb⟩⟩
theorem enum_get {ds : List D} {i : Nat} {d : D} (e : (enumD ds)[i]? = some d) : ∃ x, ds[i]? = some x ∧ d = .tuple [.int i, x] := by
  unfold enumD at e
  obtain ⟨⟨x, j⟩, e1, e2⟩ := map_get e
  rw [List.getElem?_zipIdx, Option.map_eq_some_iff] at e1
  obtain ⟨x', e3, e4⟩ := e1
  cases e4
  exact ⟨x, e3, by rw [← e2, Nat.zero_add]⟩
theorem gv_enumL {p : PrW} {K : PySem.W.Frag} {H : Hp} {a : Addr} {xs : List V} {ds : List D} (z : xs.length ≤ sizeLine) (h : FzL K H a xs) (r : RpA p K H ds xs) : Gives p K (Ite K a) H (enumD ds) true := by
  refine ⟨by rw [show (enumD ds).length = xs.length by simp [enumD, r.len]]; exact z, _, _, by rw [show (enumD ds).length = xs.length by simp [enumD, r.len]]; exact walk_enum, fun H' k => k.sqL h, fun i H1 x H2 d k e y => ?_⟩
  obtain ⟨T, u, v, e1, e2, e3, e4, e5⟩ := y
  obtain ⟨x', e6, e7⟩ := enum_get e
  obtain ⟨v', e8, r1⟩ := r.get e6
  have e9 : some v' = some v := e8.symm.trans e5
  cases e4
  cases e9
  subst e1 e7
  obtain ⟨s, y⟩ := yd_new k e2 e3 (rpInt.mpr rfl) r1
  exact ⟨s, .inr ⟨rfl, y⟩⟩
theorem gv_enumT {p : PrW} {K : PySem.W.Frag} {H : Hp} {a : Addr} {xs : List V} {ds : List D} (z : xs.length ≤ sizeLine) (h : TpT K H a xs) (r : RpA p K H ds xs) : Gives p K (IteT K a) H (enumD ds) true := by
  refine ⟨by rw [show (enumD ds).length = xs.length by simp [enumD, r.len]]; exact z, _, _, by rw [show (enumD ds).length = xs.length by simp [enumD, r.len]]; exact walk_enumT, fun H' k => (k.sqT h).sq, fun i H1 x H2 d k e y => ?_⟩
  obtain ⟨T, u, v, e1, e2, e3, e4, e5⟩ := y
  obtain ⟨x', e6, e7⟩ := enum_get e
  obtain ⟨v', e8, r1⟩ := r.get e6
  have e9 : some v' = some v := e8.symm.trans e5
  cases e4
  cases e9
  subst e1 e7
  obtain ⟨s, y⟩ := yd_new k e2 e3 (rpInt.mpr rfl) r1
  exact ⟨s, .inr ⟨rfl, y⟩⟩
theorem gv_rng {p : PrW} {K : PySem.W.Frag} {H : Hp} {lo : Int} {n : Nat} (z : n ≤ sizeLine) : Gives p K (Itr lo n) H ((List.range n).map fun i => .int (lo + (i : Nat))) false := by
  refine ⟨by rw [List.length_map, List.length_range]; exact z, _, _, by rw [List.length_map, List.length_range]; exact walk_range, fun _ _ => trivial, fun i H1 x H2 d k e y => ?_⟩
  obtain ⟨e1, e2⟩ := y
  obtain ⟨j, e3, e4⟩ := map_get e
  have e5 := range_get e3
  subst e1 e2 e4 e5
  exact ⟨Same.refl _, .inl (rpInt.mpr rfl)⟩
theorem gv_rngC {p : PrW} {K : PySem.W.Frag} {H : Hp} {lo c : Int} {n : Nat} (z : n ≤ sizeLine) : Gives p K (Itc lo c n) H ((List.range n).map fun i => .int (lo + (i : Nat) * c)) false := by
  refine ⟨by rw [List.length_map, List.length_range]; exact z, _, _, by rw [List.length_map, List.length_range]; exact walk_rangeC, fun _ _ => trivial, fun i H1 x H2 d k e y => ?_⟩
  obtain ⟨e1, e2⟩ := y
  obtain ⟨j, e3, e4⟩ := map_get e
  have e5 := range_get e3
  subst e1 e2 e4 e5
  exact ⟨Same.refl _, .inl (rpInt.mpr rfl)⟩
end
end PL


set_option Elab.async false
set_option linter.all false
set_option maxRecDepth 100000
/-! PLja: sorted(d), list(d) of a dict that stays. -/
namespace PL
open PySem PySem.Spec PyProof.Rows L2
open PySem.W (EachIs KdlSrc)
section
variable {X : Cx} {T : List D}
/-- the values that a dict's walk gives stand for its keys -/
theorem keys_each {p : PrW} {K : PySem.W.Frag} {H : Hp} : ∀ {kvs : List (D × D)} {l : List DictEntry} {us : List Value}, RpE p K H kvs l → us.length = l.length → (∀ (i : Nat) (u : Value), us[i]? = some u → ∃ e, l[i]? = some e ∧ u = e.key) → ∃ vs, Vals vs us ∧ RpA p K H (kvs.map (·.1)) vs
  | [], l, us, h, hl, _ => by
    simp only [RpE] at h
    subst h
    have e : us = [] := List.eq_nil_of_length_eq_zero (by simpa using hl)
    subst e
    exact ⟨[], .nil, .nil⟩
  | (k, d) :: r, l, us, h, hl, f => by
    simp only [RpE] at h
    obtain ⟨e, l', u, v, q, e1, e2, e3, e4, e5, e6, e7, e8⟩ := h
    subst e1
    cases us with
    | nil => simp at hl
    | cons w us =>
      obtain ⟨e9, h1, h2⟩ := f 0 w rfl
      simp at h1
      subst h1 h2
      obtain ⟨vs, g1, g2⟩ := keys_each e8 (by simpa using hl) fun i x hx => by
        obtain ⟨e9, h1, h2⟩ := f (i + 1) x (by simpa using hx)
        exact ⟨e9, by simpa using h1, h2⟩
      exact ⟨u :: vs, .cons e2 g1, .cons e3 g2⟩
theorem items_of {es : Array DictEntry} {acc : Array Value} (h : ItemsOf (fun i v => ∃ hi : i < es.size, v = es[i].key) acc es.size) : acc.toList.length = es.toList.length ∧ ∀ (i : Nat) (u : Value), acc.toList[i]? = some u → ∃ e, es.toList[i]? = some e ∧ u = e.key := by
  obtain ⟨h1, h2⟩ := h
  refine ⟨by simpa using h1, fun i u hu => ?_⟩
  obtain ⟨hi, e⟩ := h2 i u (by rw [← Array.getElem?_toList]; exact hu)
  exact ⟨es[i], by rw [Array.getElem?_toList]; exact Array.getElem?_eq_getElem hi, e⟩
/-- list(d) -/
theorem call_listD (c : Ctx X) (pins : List (Addr × Obj)) (s : Shared) (σ : L2.St) (H : Hp) (kvs : List (D × D)) (v : V) (u : Value) (Q : VK) (I : Inv X pins σ H s) (rv : RelV v u) (hd : Rp (pX X) X.K H (.dict kvs) v) (hn : noO kvs = true) (g : Give (pX X) X.K H (.list (kvs.map (·.1))) Q) :
    wpAny (model X.prog X.w) X.A (call (.type "list") [u]) (EP X pins σ Q) X.xe s := by
  obtain ⟨a, o, es, ev, h1, h2, h3⟩ := rp_raw hd hn
  subst ev
  cases rv
  obtain ⟨z1, z2, z3⟩ := raw_at I (.inr ⟨o, h1⟩)
  obtain ⟨ob, ep, hm⟩ := z3
  refine PySem.W.kdl_call (KdlSrc.rawDict (es := es) (ep := ep) z1) (I.ok.hd c.calm) ⟨ob, hm⟩ z2 fun h' tk acc c' hk hl hacc => ?_
  obtain ⟨i1, i2⟩ := items_of hacc
  obtain ⟨vs, g1, g2⟩ := keys_each h2 i1 i2
  have I1 : Inv X pins σ (upd H s.heap.objs.size (.lst vs)) { s with heap := h', toks := tk } := I.laid (fun b o e => hk b o e) (Nat.le_refl _) ⟨by rw [g2.len, List.length_map, ← esz h2]; exact z2, acc.toList, c', g1, by rw [Array.toArray_toList]; exact hl⟩
  exact sealL (g.lst g2) ⟨.ref s.heap.objs.size, _, I1, rfl, _, rfl, I.fresh, rfl⟩
theorem sort_vals2 {p : PrW} {K : PySem.W.Frag} {H : Hp} : ∀ {ds : List D} {out : List Value}, EachIs (fun u d => ∃ v, RelV v u ∧ Rp p K H d v) out ds → ∃ vs, Vals vs out ∧ RpA p K H ds vs := sort_vals
/-- sorted(d) -/
theorem call_sortDD (c : Ctx X) (pins : List (Addr × Obj)) (s : Shared) (σ : L2.St) (H : Hp) (kvs : List (D × D)) (r : D) (v : V) (u : Value) (Q : VK) (I : Inv X pins σ H s) (rv : RelV v u) (hd : Rp (pX X) X.K H (.dict kvs) v) (hn : noO kvs = true) (e : sortD (kvs.map (·.1)) = some r) (g : Give (pX X) X.K H r Q) :
    wpAny (model X.prog X.w) X.A (call (.builtin "sorted") [u]) (EP X pins σ Q) X.xe s := by
  unfold sortD at e
  split at e
  case isFalse => cases e
  rename_i ho
  cases e
  have hu := c.hu
  obtain ⟨a, o, es, ev, h1, h2, h3⟩ := rp_raw hd hn
  subst ev
  cases rv
  obtain ⟨z1, z2, z3⟩ := raw_at I (.inr ⟨o, h1⟩)
  obtain ⟨ob, ep, hm⟩ := z3
  unfold sortOk at ho
  simp only [Bool.and_eq_true, Bool.or_eq_true, List.all_eq_true] at ho
  obtain ⟨⟨k1, k2⟩, k3⟩ := ho
  generalize hds : kvs.map (·.1) = ds at k1 k2 k3 g
  have hal : PySem.W.AllAlike (ds.map id) := by
    rw [List.map_id]
    exact fun d hd' d' hd'' => k1 d hd' d' hd''
  have hk : PySem.W.Sortable (ds.map id) := by
    rw [List.map_id]
    rcases k2 with k2 | k2
    · refine .inl fun d hd' => ?_
      have z := k2 d hd'
      cases d with
      | tuple l =>
        cases l with
        | nil => cases z
        | cons x t => exact ⟨x, t, rfl⟩
      | _ => cases z
    · refine .inr fun d hd' => ?_
      have z := k2 d hd'
      cases d with
      | tuple l => cases z
      | none => cases z
      | _ => exact ⟨(by intro q; cases q), (by intro _ q; cases q)⟩
  have lay : PyData.canLayAll0 ds = true := all_lay ds fun d hd' => shaped_lay (k3 d hd')
  have hlen : ds.length = es.size := by rw [← hds, List.length_map, ← esz h2]
  refine Calls.call_function_entry PyProof.Rows.kind_sorted PyProof.Rows.plain_sorted PyProof.Rows.entry_sorted (PyProof.Rows.args_sorted1 _) ?_
  unfold Builtin.«sorted»
  refine wpAny_bind (m := checkCount "sorted" 1 1 _) (wpAny_pure ?_)
  refine wpAny_bind (PySem.W.kdu_collect (A := X.A.in1) (KdlSrc.rawDict (es := es) (ep := ep) z1) (I.ok.hd c.calm) ⟨ob, hm⟩ z2 fun h' tk acc hkp hacc => ?_)
  obtain ⟨i1, i2⟩ := items_of hacc
  obtain ⟨vs, g1, g2⟩ := keys_each h2 i1 i2
  rw [hds] at g2
  have hal2 : acc.toList.length ≤ sizeLine := by rw [i1, Array.length_toList]; exact z2
  have I1 : Inv X pins σ H { s with heap := h', toks := tk } := I.kept hkp
  refine wpAny_bind (wpAny_newList ?_ hal2)
  have hoL : (h'.push (seqObj "list" acc.toList.toArray 0)).get? h'.objs.size = some (seqObj "list" acc.toList.toArray 0) := Heap.get?_push_size _ rfl
  show wpAny _ _ _ _ _ { s with heap := h'.push (seqObj "list" acc.toList.toArray 0), toks := tk }
  have er : EachIs (fun u d => ∃ as, Reads h' u (id d) as) acc.toList ds := sort_reads c I1 g2 g1 lay
  have er' : EachIs (fun u d => ∃ as, Reads (PySem.W.sortingHeap (h'.push (seqObj "list" acc.toList.toArray 0)) h'.objs.size acc.toList) u (id d) as) acc.toList ds := er.mono fun _ _ ⟨as, r⟩ => ⟨as, PyProof.Rows.Reads.keeps (fun b o e => PySem.W.sortingHeap_old (Nat.ne_of_lt (Heap.lt_size e)) (Heap.get?_push_of_some _ e)) r⟩
  have ee : EachIs (fun u d => ∃ v, RelV v u ∧ Rp (pX X) X.K H d v) acc.toList ds := sort_each g2 g1
  refine wpAny_bind (wpAny_holding (wpAny_call_entry PyProof.Rows.slot_list_sort ⟨_, hoL, rfl⟩ PyProof.Rows.entry_list_sort
    (PySem.W.list_sort_vals (s := { s with heap := h'.push (seqObj "list" acc.toList.toArray 0), toks := tk }) (κ := PySem.W.dataKind (PySem.W.sortingHeap (h'.push (seqObj "list" acc.toList.toArray 0)) h'.objs.size acc.toList) (ds.map id)) hoL
      (PySem.W.SortsAt.data (s := { s with heap := PySem.W.sortingHeap (h'.push (seqObj "list" acc.toList.toArray 0)) h'.objs.size acc.toList, toks := tk }) (PySem.W.each_map (R := fun v d => ∃ as, Reads (PySem.W.sortingHeap (h'.push (seqObj "list" acc.toList.toArray 0)) h'.objs.size acc.toList) v d as) id er') hal hk (PySem.W.bound_map fun b hb => ?_)) hal2 ⟨_, rfl, ?_⟩) (PyProof.Rows.args_list_sort _)))
  · have := SeqAt.depth_of_shaped (k3 b hb)
    simp only [Around.in1_units, id]
    omega
  · have hso := PySem.W.sortVals_data (R := fun u d => ∃ v, RelV v u ∧ Rp (pX X) X.K H d v) (h' := PySem.W.sortingHeap (h'.push (seqObj "list" acc.toList.toArray 0)) h'.objs.size acc.toList) (enc := id) false ee er' hal
    generalize hout : PySem.W.sortVals (PySem.W.dataKind (PySem.W.sortingHeap (h'.push (seqObj "list" acc.toList.toArray 0)) h'.objs.size acc.toList) (ds.map id)) false acc.toList acc.toList = out at hso
    obtain ⟨vs', r2, h7⟩ := sort_vals hso
    obtain ⟨e', he'⟩ := PyProof.Rows.sortedHeap_at (vs := acc.toList) (out := out.toArray) hoL
    have hl2 : vs'.length ≤ sizeLine := by
      rw [h7.len, List.length_mergeSort, hlen]
      exact z2
    have I2 := I1.laid (t' := tk) (h' := sortedHeap (h'.push (seqObj "list" acc.toList.toArray 0)) h'.objs.size acc.toList out.toArray) (a := h'.objs.size) (o := .lst vs') (fun b u e => by
      have hb : b < h'.objs.size := Heap.lt_size e
      rw [PyProof.Rows.sortedHeap_old (Nat.ne_of_lt hb) (by rw [size_push']; exact Nat.lt_succ_of_lt hb)]
      exact Heap.get?_push_of_some _ e) (Nat.le_refl _) ⟨hl2, out, e', r2, he'⟩
    exact wpAny_pure ⟨_, rfl, sealL (g.lst h7) ⟨.ref h'.objs.size, _, I2, rfl, _, rfl, I1.fresh, rfl⟩⟩
theorem allInts_map : ∀ {ds : List D} {ks : List Int}, allInts ds = some ks → ds = ks.map PyData.int
  | [], ks, e => by
    simp only [allInts] at e
    cases e
    rfl
  | d :: r, ks, e => by
    cases d <;> simp only [allInts] at e <;> try (cases e; done)
    obtain ⟨l, e1, e2⟩ := Option.map_eq_some_iff.mp e
    subst e2
    rw [allInts_map e1]
    rfl
theorem sortD_ints (ks : List Int) : sortD (ks.map PyData.int) = some (.list ((sortI ks).map PyData.int)) := by
  unfold sortD
  rw [if_pos]
  · congr 2
    unfold sortI
    rw [List.map_mergeSort]
    intro a _ b _
    exact (congrFun (congrFun (PySem.W.dataLe_int (fun x : Int => x)) a) b).symm
  · unfold sortOk
    simp only [Bool.and_eq_true, List.all_eq_true, Bool.or_eq_true, List.mem_map, forall_exists_index, and_imp, forall_apply_eq_imp_iff₂]
    refine ⟨⟨fun a _ b _ => rfl, .inr fun a _ => trivial⟩, fun a _ => ?_⟩
    unfold SeqAt.shaped
    simp [PyData.canLay0, PyData.depth]
end
end PL


set_option Elab.async false
set_option linter.all false
set_option maxRecDepth 100000
/-! PLj: all calls of built-in functions; isinstance. -/
namespace PL
open PySem PySem.Spec PyProof.Rows L2
section
variable {X : Cx} {T : List D}
theorem rpa_of_ints {p : PrW} {K : PySem.W.Frag} {H : Hp} : ∀ l : List Int, RpA p K H (l.map PyData.int) (l.map V.int)
  | [] => .nil
  | a :: r => .cons (rpInt.mpr rfl) (rpa_of_ints r)
theorem rep_list (c : Ctx X) {pins : List (Addr × Obj)} {s : Shared} {σ : L2.St} {H : Hp} {xs : List V} {us : List Value} {Q : VK} {ds : List D} (I : Inv X pins σ H s) (r : Vals xs us) (p : Addr) (ys : List V) (ex : xs = [.ref p]) (h1 : SqL X.K H p ys ∨ SqT X.K H p ys) (h2 : RpA (pX X) X.K H ds ys) (g : Give (pX X) X.K H (.list ds) Q) :
    wpAny (model X.prog X.w) X.A (call (.type "list") us) (EP X pins σ Q) X.xe s := by
  subst ex
  refine thn (call_list_of pins s σ H _ us (fun v H' => ∃ p, v = .ref p ∧ H p = none ∧ H' = upd H p (.lst ys)) I r ⟨p, ys, rfl, h1, fun l hl => ⟨l, rfl, hl, rfl⟩⟩) fun _ _ z => sealL (g.lst h2) z
theorem rpa_ints {p : PrW} {K : PySem.W.Frag} {H : Hp} : ∀ {ds : List D} {ns : List Int} {ys : List V}, allInts ds = some ns → RpA p K H ds ys → ys = ns.map V.int
  | [], ns, ys, e, h => by
    simp only [allInts, Option.some.injEq] at e
    subst e
    have h : ys = [] := by simpa only [RpA] using h
    rw [h]
    rfl
  | d :: r, ns, ys, e, h => by
    simp only [RpA] at h
    obtain ⟨v, l', e0, h1, h2⟩ := h
    cases d <;> simp only [allInts] at e <;> try (cases e; done)
    obtain ⟨l, e1, e2⟩ := Option.map_eq_some_iff.mp e
    subst e2
    rw [e0, rpa_ints e1 h2, rpInt.mp h1]
    rfl
theorem ints_read {h : Heap} : ∀ {ns : List Int} {ys : List V} {us : List Value}, ys = ns.map V.int → Vals ys us → ReadsAll h us.toArray.toList (ns.map PyData.int) []
  | [], ys, us, e, r => by
    subst e
    cases r
    exact .nil
  | n :: m, ys, us, e, r => by
    subst e
    cases r with
    | cons r1 r2 =>
      obtain ⟨t, rfl⟩ := r1
      exact ReadsAll.cons (as := []) (bs := []) (.int n t) (ints_read rfl r2)
theorem ints_alike (ns : List Int) : PySem.W.AlikeAll (ns.map PyData.int) := by
  refine ⟨fun x hx y hy => ?_, fun x hx => ?_⟩
  · obtain ⟨a, _, rfl⟩ := List.mem_map.mp hx
    obtain ⟨b, _, rfl⟩ := List.mem_map.mp hy
    rfl
  · obtain ⟨a, _, rfl⟩ := List.mem_map.mp hx
    exact fun e => by cases e
theorem ints_depth : ∀ ns : List Int, PyData.depthAll (ns.map PyData.int) = 0
  | [] => by simp [PyData.depthAll]
  | n :: m => by
    rw [List.map_cons, PyData.depthAll, ints_depth m]
    simp [PyData.depth]
theorem bi2 (c : Ctx X) : ∀ f : Bi, CallR X (biVal f) (rDs (pX X) X.K (biD T f)) := by
  intro f pins s σ H xs us Q I rv ⟨ds, r, hd, hf, g⟩
  have hu := c.hu
  unfold biD at hf
  split at hf
  · rename_i l
    cases hf
    obtain ⟨v, ex, h⟩ := hd.one
    obtain ⟨a, ys, ev, h1, h2⟩ := rpLst.mp h
    subst ex ev
    exact call_len_seq pins s σ H _ us Q I rv ⟨a, ys, rfl, .inl h1.sq, by rw [h2.len]; exact g.int⟩
  · rename_i l
    cases hf
    obtain ⟨v, ex, h⟩ := hd.one
    obtain ⟨a, ys, ev, h1, h2⟩ := rpTup.mp h
    subst ex ev
    exact call_len_seq pins s σ H _ us Q I rv ⟨a, ys, rfl, .inr (h1.sq), by rw [h2.len]; exact g.int⟩
  · rename_i l
    split at hf
    · rename_i hn
      cases hf
      obtain ⟨v, ex, h⟩ := hd.one
      subst ex
      obtain ⟨u, eu, rx⟩ := vals1 rv
      subst eu
      exact len_dict pins s σ H l v u Q I rx h hn g.int
    · cases hf
  · rename_i a
    cases hf
    obtain ⟨v, ex, h⟩ := hd.one
    rw [rpInt] at h
    subst ex h
    exact call_abs pins s σ H _ us Q I rv ⟨a, rfl, g.int⟩
  · rename_i a
    cases hf
    obtain ⟨v, ex, h⟩ := hd.one
    rw [rpInt] at h
    subst ex h
    exact call_int1 pins s σ H _ us Q I rv (.inl ⟨a, rfl, g.int⟩)
  · rename_i b
    cases hf
    obtain ⟨v, ex, h⟩ := hd.one
    rw [rpBool] at h
    subst ex h
    exact call_int1 pins s σ H _ us Q I rv (.inr ⟨b, rfl, g.int⟩)
  · rename_i a b
    cases hf
    obtain ⟨v, u, ex, h, h'⟩ := hd.two
    rw [rpInt] at h h'
    subst ex h h'
    exact cr_gcd pins s σ H _ us Q I rv ⟨a, b, rfl, g.int⟩
  · rename_i a b
    split at hf
    · rename_i hz
      cases hf
      obtain ⟨v, u, ex, h, h'⟩ := hd.two
      rw [rpInt] at h h'
      subst ex h h'
      obtain ⟨t, t2, e⟩ := Vals.int2 rv
      subst e
      exact PySem.W.mc_lcm hz.1 hz.2 fun _ => ⟨.int _, H, I.tok _, ⟨_, rfl⟩, g.int⟩
    · cases hf
  · rename_i a b
    split at hf
    · rename_i hz
      cases hf
      obtain ⟨v, u, ex, h, h'⟩ := hd.two
      rw [rpInt] at h h'
      subst ex h h'
      obtain ⟨t, t2, e⟩ := Vals.int2 rv
      subst e
      exact PySem.W.mc_comb hz.1 hz.2.1 (by omega) (.inr hz.2.2) fun _ => ⟨.int _, H, I.tok _, ⟨_, rfl⟩, g.int⟩
    · cases hf
  · rename_i l
    obtain ⟨ns, e1, e2⟩ := Option.map_eq_some_iff.mp hf
    subst e2
    obtain ⟨v, ex, h⟩ := hd.one
    obtain ⟨a, ys, ev, h1, h2⟩ := rpLst.mp h
    rw [h2.ints e1] at h1
    subst ex ev
    exact cr_sum c.calm pins s σ H _ us Q I rv ⟨a, ns, rfl, h1.sq, g.int⟩
  · rename_i l
    obtain ⟨ns, e1, e2⟩ := Option.map_eq_some_iff.mp hf
    subst e2
    obtain ⟨v, ex, h⟩ := hd.one
    obtain ⟨a, ys, ev, h1, h2⟩ := rpLst.mp h
    rw [h2.bools e1] at h1
    subst ex ev
    exact cr_all c.calm pins s σ H _ us Q I rv ⟨a, ns, rfl, h1.sq, g.bool⟩
  · rename_i l
    obtain ⟨ns, e1, e2⟩ := Option.map_eq_some_iff.mp hf
    subst e2
    obtain ⟨v, ex, h⟩ := hd.one
    obtain ⟨a, ys, ev, h1, h2⟩ := rpLst.mp h
    rw [h2.bools e1] at h1
    subst ex ev
    exact cr_any c.calm pins s σ H _ us Q I rv ⟨a, ns, rfl, h1.sq, g.bool⟩
  · rename_i l
    obtain ⟨v, ex, h⟩ := hd.one
    subst ex
    obtain ⟨u, eu, rx⟩ := vals1 rv
    subst eu
    exact call_sortD c pins s σ H l r v u Q I rx h hf g
  · rename_i kvs
    split at hf
    · rename_i hn
      obtain ⟨v, ex, h⟩ := hd.one
      subst ex
      obtain ⟨u, eu, rx⟩ := vals1 rv
      subst eu
      have e : sortD (kvs.map (·.1)) = some r := by
        split at hf
        · rename_i ks e1
          rw [allInts_map e1, sortD_ints]
          exact hf
        · exact hf
      exact call_sortDD c pins s σ H kvs r v u Q I rx h hn e g
    · cases hf
  · rename_i l
    cases hf
    obtain ⟨v, ex, h⟩ := hd.one
    obtain ⟨a, ys, ev, h1, h2⟩ := rpLst.mp h
    subst ex ev
    exact call_tupleK pins s σ H _ us Q I rv ⟨a, ys, rfl, h1.sq, g.tup h2⟩
  · rename_i l
    cases hf
    obtain ⟨v, ex, h⟩ := hd.one
    obtain ⟨a, ys, ev, h1, h2⟩ := rpLst.mp h
    subst ev
    exact rep_list c I rv a ys ex (.inl h1.sq) h2 g
  · rename_i l
    cases hf
    obtain ⟨v, ex, h⟩ := hd.one
    obtain ⟨a, ys, ev, h1, h2⟩ := rpTup.mp h
    subst ev
    exact rep_list c I rv a ys ex (.inr (h1.sq)) h2 g
  · rename_i kvs
    split at hf
    · rename_i hn
      cases hf
      obtain ⟨v, ex, h⟩ := hd.one
      subst ex
      obtain ⟨u, eu, rx⟩ := vals1 rv
      subst eu
      exact call_listD c pins s σ H kvs v u Q I rx h hn g
    · cases hf
  · rename_i l
    obtain ⟨v, ex, h⟩ := hd.one
    subst ex
    obtain ⟨u, eu, rx⟩ := vals1 rv
    subst eu
    exact call_dictD (T := T) c pins s σ H _ r v u Q I rx h (by simp only [biD]; exact hf) g
  · rename_i l
    obtain ⟨v, ex, h⟩ := hd.one
    subst ex
    obtain ⟨u, eu, rx⟩ := vals1 rv
    subst eu
    exact call_dictD (T := T) c pins s σ H _ r v u Q I rx h (by simp only [biD]; exact hf) g
  · rename_i a b
    cases hf
    obtain ⟨v, u, ex, h, h'⟩ := hd.two
    rw [rpInt] at h h'
    subst ex h h'
    exact call_max2 c.calm pins s σ H _ us Q I rv ⟨a, b, rfl, g.int⟩
  · rename_i a b
    cases hf
    obtain ⟨v, u, ex, h, h'⟩ := hd.two
    rw [rpInt] at h h'
    subst ex h h'
    exact call_min2 c.calm pins s σ H _ us Q I rv ⟨a, b, rfl, g.int⟩
  · rename_i l
    obtain ⟨ns, e1, e2⟩ := Option.bind_eq_some_iff.mp hf
    cases ns with
    | nil => cases e2
    | cons n m =>
      cases e2
      obtain ⟨v, ex, h⟩ := hd.one
      obtain ⟨a, ys, ev, h1, h2⟩ := rpTup.mp h
      subst ex ev
      obtain ⟨its, rv2, pl, hz⟩ := I.tuple (h1.sq)
      rw [Vals.ref1 rv]
      have hu := c.hu
      refine PySem.W.max_tuple_data (x := .int n) (xs := m.map PyData.int) (I.ok.hd c.calm) pl (ints_read (ns := n :: m) (rpa_ints e1 h2) rv2) (ints_alike (n :: m)) (by have := ints_depth (n :: m); simp only [List.map_cons] at this; rw [this]; omega) fun i w h' tk bs hw rd hk => ?_
      rw [PySem.W.maxD_ints] at rd
      cases rd
      exact ⟨.int _, H, I.kept hk, ⟨_, rfl⟩, g.int⟩
  · rename_i l
    obtain ⟨ns, e1, e2⟩ := Option.bind_eq_some_iff.mp hf
    cases ns with
    | nil => cases e2
    | cons n m =>
      cases e2
      obtain ⟨v, ex, h⟩ := hd.one
      obtain ⟨a, ys, ev, h1, h2⟩ := rpTup.mp h
      subst ex ev
      obtain ⟨its, rv2, pl, hz⟩ := I.tuple (h1.sq)
      rw [Vals.ref1 rv]
      have hu := c.hu
      refine PySem.W.min_tuple_data (x := .int n) (xs := m.map PyData.int) (I.ok.hd c.calm) pl (ints_read (ns := n :: m) (rpa_ints e1 h2) rv2) (ints_alike (n :: m)) (by have := ints_depth (n :: m); simp only [List.map_cons] at this; rw [this]; omega) fun i w h' tk bs hw rd hk => ?_
      rw [PySem.W.minD_ints] at rd
      cases rd
      exact ⟨.int _, H, I.kept hk, ⟨_, rfl⟩, g.int⟩
  · cases hf
/-! ### isinstance -/
theorem isTab_ok : (isTab.all fun q => decide (kitB q.1 q.2.1 = some q.2.2)) = true := by decide +kernel
theorem isi_kit {K : PySem.W.Frag} {a t : String} {b : Bool} (h : (isTab.find? fun q => q.1 == a && q.2.1 == t).map (fun q => q.2.2) = some b) : PySem.W.kitOne K (.type a) (.type t) = some b := by
  obtain ⟨q, h1, h2⟩ := Option.map_eq_some_iff.mp h
  have h3 := List.find?_some h1
  have h4 := List.mem_of_find?_eq_some h1
  have h5 := of_decide_eq_true (List.all_eq_true.mp isTab_ok q h4)
  simp only [Bool.and_eq_true, beq_iff_eq] at h3
  rw [← h3.1, ← h3.2, ← h2]
  exact kit_ty h5
theorem isi2 (c : Ctx X) {pins : List (Addr × Obj)} {s : Shared} {σ : L2.St} {H : Hp} {d : D} {t : String} {b : Bool} {v : V} {u : Value} {Q : VK} (I : Inv X pins σ H s) (r : RelV v u) (hd : Rp (pX X) X.K H d v) (e : isiD t d = some b) (q : Q (.bl b) H) :
    wpAny (model X.prog X.w) X.A (call (.builtin "isinstance") [u, .type t]) (EP X pins σ Q) X.xe s := by
  unfold isiD at e
  obtain ⟨a, e1, e2⟩ := Option.bind_eq_some_iff.mp e
  have hk := isi_kit (K := X.K) e2
  have ty : TyX X.K H v (.type a) := by
    cases d <;> simp only [tyN, Option.some.injEq] at e1 <;> try (cases e1; done)
    all_goals subst e1
    · simp only [Rp] at hd; subst hd; exact .base .non
    · rw [rpBool] at hd; subst hd; exact .base (.bl _)
    · rw [rpInt] at hd; subst hd; exact .base (.int _)
    · rw [rpStr] at hd; subst hd; exact .base (.str _)
    · obtain ⟨p, xs, ev, h1, h2⟩ := rpLst.mp hd
      subst ev
      rcases h1 with ⟨o, h1⟩ | ⟨its, n, h1, _⟩
      · exact .base (.frz h1)
      · exact .kList h1 rfl
    · obtain ⟨p, xs, ev, h1, h2⟩ := rpTup.mp hd
      subst ev
      rcases h1 with ⟨o, h1, _⟩ | ⟨o, its, n, k1, k2, _⟩
      · exact .fTuple h1
      · exact .kTuple k1 k2
  exact call_isi pins s σ H [v, .ty t] [u, .type t] Q I (.cons r (.cons rfl .nil)) ⟨v, .ty t, .type a, .type t, b, rfl, .ty t, ty, hk, q⟩
end
end PL


set_option Elab.async false
set_option linter.all false
set_option maxRecDepth 100000
/-! PLk: a dict that grows: by d[k] = v, by a comprehension. -/
namespace PL
open PySem PySem.Spec PyProof.Rows L2
/-- what a growing dict holds -/
def DAcc (p : PrW) (K : PySem.W.Frag) (H : Hp) (a : Addr) (acc : List (D × D)) : Prop := ∃ es, H a = some (rawO a es) ∧ RpE p K H acc es.toList ∧ NdK (acc.map (·.1))
theorem rawO_ok {P : Program} {w : World} {H : Hp} {h : Heap} {a : Addr} {es : Array DictEntry} (h1 : (a == sysModules) = false) (h2 : es.size ≤ sizeLine) (h3 : GD.RawD h a es) : ObjOk P w H h a (rawO a es) := by
  refine ⟨⟨h1, h2, h3⟩, ?_, ?_⟩
  · obtain ⟨o, ep, ho, _⟩ := h3
    exact ⟨o, ho⟩
  · rintro g1 g2 ⟨z1, z2, o', ep', z3, z4⟩ k
    exact ⟨z1, z2, o', ep', k o' z3, z4⟩
theorem raw_empty {P : Program} {w : World} {H : Hp} (h : Heap) (hb : sysModules < h.objs.size) : ObjOk P w H (h.push { cls := .type "dict", data := .dict #[] }) h.objs.size (rawO h.objs.size #[]) :=
  rawO_ok (beq_eq_false_iff_ne.mpr (Ne.symm (Nat.ne_of_lt hb))) (Nat.zero_le _) ⟨_, 0, Heap.get?_push_size _ rfl, ⟨rfl, rfl, rfl⟩, rfl⟩
section
variable {X : Cx} {T : List D} {pins : List (Addr × Obj)} {σ : L2.St} {H : Hp} {s : Shared} {a : Addr}
theorem DAcc.mut {p : PrW} {K : PySem.W.Frag} {acc : List (D × D)} (h : DAcc p K H a acc) : Mut (H a) := by
  obtain ⟨es, h, _⟩ := h
  rw [h]
  exact True.intro
theorem kp_raw {es : Array DictEntry} (h : H a = some (rawO a es)) {o : HO} : Kp H (upd H a o) := by
  refine ⟨fun b xs e => ?_, fun b ob u e => ?_⟩
  all_goals
    by_cases hb : b = a
    · subst hb
      rw [h] at e
      cases e
    · rw [upd_ne hb]; exact e
theorem DAcc.kp {p : PrW} {K : PySem.W.Frag} {acc : List (D × D)} (h : DAcc p K H a acc) {o : HO} : Kp H (upd H a o) := by
  obtain ⟨es, h, _⟩ := h
  exact kp_raw h
theorem dacc_len {p : PrW} {K : PySem.W.Frag} {acc : List (D × D)} {P : Program} {w : World} (h : DAcc p K H a acc) (x : HOk P w H s.heap) : acc.length ≤ sizeLine := by
  obtain ⟨es, h1, h2, _⟩ := h
  rw [← esz h2]
  exact (show ObjOk P w H s.heap a (rawO a es) from x a _ h1).1.2.1
/-- d[k] = v, by the dict's own way of storing -/
theorem store_with (c : Ctx X) {E : Value → Shared → Prop} {acc : List (D × D)} {dk dv : D} {q : NestedKey} {y z : V} {u r : Value} {Q : Unit → Shared → Prop} (I : Inv X pins σ H s) (h : DAcc (pX X) X.K H a acc) (hq : kdOf T dk = some q)
    (ry : RelV y u) (rz : RelV z r) (hk : Rp (pX X) X.K H dk y) (hv : Rp (pX X) X.K H dv z) (hl : acc.length < sizeLine) (hQ : ∀ s' es, Inv X pins σ (upd H a (rawO a es)) s' → DAcc (pX X) X.K (upd H a (rawO a es)) a (putD T acc dk q dv) → Q () s')
    {m : Sem Unit} (hm : ∀ (es : Array DictEntry) (ks : List NestedKey), GD.KeyAt s.heap q u → GD.RawD s.heap a es → GD.Ents X.w s.heap es.toList ks → ks.Nodup → es.size ≤ sizeLine →
      (q ∉ ks → ∀ h', GD.RawD h' a (es.push ⟨q.hash X.w, u, r⟩) → Heap.SameBut a s.heap h' → Q () { s with heap := h', toks := s.toks + q.draws }) →
      (∀ (j : Nat), ks[j]? = some q → ∀ h', GD.RawD h' a (es.modify j fun x => { x with val := r }) → Heap.SameBut a s.heap h' → Q () { s with heap := h', toks := s.toks + q.draws }) → wpAny (model X.prog X.w) X.A m Q E s) : wpAny (model X.prog X.w) X.A m Q E s := by
  obtain ⟨es, h1, h2, h3⟩ := h
  obtain ⟨z1, z2, z3⟩ := raw_at I (.inl h1)
  obtain ⟨ks, hks⟩ := h2.keys.ks
  obtain ⟨pn, po⟩ := rpE_put h2 hks h3 hk ry hq rz hv
  have fin : ∀ (es' : Array DictEntry) (h' : Heap), GD.RawD h' a es' → es'.size ≤ sizeLine → Heap.SameBut a s.heap h' → RpE (pX X) X.K H (putD T acc dk q dv) es'.toList → NdK ((putD T acc dk q dv).map (·.1)) → Q () { s with heap := h', toks := s.toks + q.draws } := fun es' h' hr hz hs hp hn => by
    have he : ∃ o, h'.get? a = some o := let ⟨o, _, ho, _⟩ := hr; ⟨o, ho⟩
    exact hQ _ es' (d_write I (by rw [h1]; exact True.intro) hs he (rawO_ok z1 hz hr)) ⟨es', upd_same, RpE.keep (kp_raw h1) _ _ hp, hn⟩
  have hsz := esz h2
  refine hm es ks (rp_keyAt I hk ry hq) z3 (h2.keys.ents I hks) (hks.nodup h3) z2 (fun hn h' hr hs => ?_) fun j hj h' hr hs => ?_
  · obtain ⟨p1, p2⟩ := pn hn
    exact fin _ h' hr (by rw [Array.size_push]; omega) hs (by simpa using p1) p2
  · obtain ⟨p1, p2⟩ := po j hj
    exact fin _ h' hr (by rw [Array.size_modify]; omega) hs (by rw [Array.toList_modify]; exact p1) p2
/-- D[k] = v of a dict in the making -/
theorem dict_store (c : Ctx X) {E : Value → Shared → Prop} {acc : List (D × D)} {dk dv : D} {q : NestedKey} {y z : V} {u r : Value} {Q : Unit → Shared → Prop} (I : Inv X pins σ H s) (h : DAcc (pX X) X.K H a acc) (hq : kdOf T dk = some q)
    (ry : RelV y u) (rz : RelV z r) (hk : Rp (pX X) X.K H dk y) (hv : Rp (pX X) X.K H dv z) (hl : acc.length < sizeLine) (hQ : ∀ s' es, Inv X pins σ (upd H a (rawO a es)) s' → DAcc (pX X) X.K (upd H a (rawO a es)) a (putD T acc dk q dv) → Q () s') :
    wpAny (model X.prog X.w) X.A (dictSet a u r) Q E s := by
  have hu := c.hu
  exact store_with c I h hq ry rz hk hv hl hQ fun es ks g1 g2 g3 g4 g5 g6 g7 => GD.set_key (by omega) g1 g2 g3 g4 g5 g6 g7
/-- d[k] = v of a dict -/
theorem dict_setItem (c : Ctx X) {E : Value → Shared → Prop} {acc : List (D × D)} {dk dv : D} {q : NestedKey} {y z : V} {u r : Value} {Q : Unit → Shared → Prop} (I : Inv X pins σ H s) (h : DAcc (pX X) X.K H a acc) (hq : kdOf T dk = some q)
    (ry : RelV y u) (rz : RelV z r) (hk : Rp (pX X) X.K H dk y) (hv : Rp (pX X) X.K H dv z) (hl : acc.length < sizeLine) (hQ : ∀ s' es, Inv X pins σ (upd H a (rawO a es)) s' → DAcc (pX X) X.K (upd H a (rawO a es)) a (putD T acc dk q dv) → Q () s') :
    wpAny (model X.prog X.w) X.A (setItem (.ref a) u r) Q E s := by
  have hu := c.hu
  exact store_with c I h hq ry rz hk hv hl hQ fun es ks g1 g2 g3 g4 g5 g6 g7 => GD.setItem_raw (by omega) g1 g2 g3 g4 g5 g6 g7
end
end PL


set_option Elab.async false
set_option linter.all false
set_option maxRecDepth 100000
/-! PLl: dict comprehensions with keys of three kinds. -/
namespace PL
open PySem PySem.Spec PyProof.Rows L2
/-- how a comprehension's dict takes a pair -/
abbrev TPut := Hp → Addr → V → V → (Hp → Prop) → Prop
def PutOk (X : Cx) (put : TPut) : Prop := ∀ (pins : List (Addr × Obj)) (s : Shared) (σ : L2.St) (H : Hp) (a : Addr) (y z : V) (u r : Value) (Qh : Hp → Prop) (E : Value → Shared → Prop), Inv X pins σ H s → RelV y u → RelV z r → put H a y z Qh →
  wpAny (model X.prog X.w) X.A (dictSet a u r) (fun _ s' => ∃ H', Inv X pins σ H' s' ∧ Qh H') E s
/-- a dict comprehension's reading -/
def tDx (put : TPut) (wi : TI) (g : TG) (tt : TT) (tk tv : TE) (vs : List Nat) : TE := fun σ H Q => wi σ H fun J H1 => ∀ a, H1 a = none → ∃ W : Nat → Nat → Hp → Prop, (∃ m, W 0 m (upd H1 a (rawO a #[]))) ∧
  ∀ i m H, W i m H → (J.stop i H ∧ ∀ od o, H a = some o → Mut (some o) → Q (.ref a) (upd H a (.frz od o))) ∧ (∃ o, H a = some o ∧ Mut (some o)) ∨ (J.go i H ∧ ∃ Nx : Hp → Prop, (∀ H', Nx H' → ∃ m', m' < m ∧ W (i + 1) m' H') ∧
    ∀ x H', J.yld i H x H' → g x (wipe σ vs) H' fun σ2 H2 => wipe σ2 vs = wipe σ vs ∧ tt σ2 H2 fun b H3 => if b = true then tk σ2 H3 fun y H4 => tv σ2 H4 fun z H5 => put H5 a y z Nx else Nx H3)
section
variable {X : Cx}
abbrev blkOf (X : Cx) (scope : Scope) (s : Shared) (H : Hp) (c : Addr) (cl : List (Str × Addr)) (fp : List Addr) : Cx := X.blk s H scope (compEnvC scope cl c X.env) fp
theorem dx_core {pins : List (Addr × Obj)} {s : Shared} {σ : L2.St} {H : Hp} {Q : VK} {use : Option (Value → Sem Unit)} {Qf : Value → Shared → Prop} {pos' : Pos} {kx vx tg iter : Expr} {ifs : List Expr} {scope : Scope} {own : List (Str × Nat)} {pos : Pos} {put : TPut} {wi : TI} {g : TG} {tt : TT} {tk tv : TE} (hcalm : X.calm = true) (I : Inv X pins σ H s) (hnd : X.N.Nodup)
    (hi : PI X tg iter wi) (ok : BlkOk X.N X.env.scope scope own) (hg : ∀ s H c cl fp, PG (blkOf X scope s H c cl fp) tg g) (ht : ∀ s H c cl fp, PTs (blkOf X scope s H c cl fp) ifs tt)
    (hk : ∀ s H c cl fp, PE (blkOf X scope s H c cl fp) kx tk) (hv : ∀ s H c cl fp, PE (blkOf X scope s H c cl fp) vx tv) (hp : ∀ s H c cl fp, PutOk (blkOf X scope s H c cl fp) put)
    (hfold : ∀ x, foldedSetIterable iter X.env x = pure x) (h : tDx put wi g tt tk tv (own.map (·.2)) σ H Q)
    (fin0 : ∀ a C s' m H', Inv X pins σ H' s' → Q (.ref a) H' → s'.heap.Ns C m → FpOk X pins H' C → compPost (model X.prog X.w) X.A X.xe use Qf (.ref a) C (.ok .next) s') :
    wpAny (model X.prog X.w) X.A (comprehension (.DictComp kx vx [⟨tg, iter, ifs, 0⟩] scope pos) scope X.env pos' newDict false (eval iter X.env) use) Qf X.xe s := by
  have hcl : ∀ y ∈ scope.names, y.2 = .free → ∃ c, X.env.cells.lookup y.1 = some c := fun y hy e => by
    rcases ok.free y hy e with k | k
    · exact I.ok.has _ (.inl k)
    · exact I.ok.has _ (.inr k)
  refine wpAny_comprehension_free (use := use) rfl hfold (closure_ok hcl) ok.kind (fun y hy e => by rw [ok.uniq y hy, e]) (thn (hi.run pins s σ H _ I h) fun xv sA hA => thn hA fun itv sB ⟨it, fp, tn, J, HB, eit, IB, TU, stB, fB, q⟩ => ?_)
  subst eit
  refine wpAny_newObj_type (newEnv_comp ?_)
  have hnew : HB sB.heap.objs.size = none := IB.hok.fresh (Nat.le_refl _)
  generalize hd : sB.heap.objs.size = dd at hnew
  obtain ⟨W, ⟨m0, w0⟩, turn⟩ := q dd hnew
  generalize hsC : ({ sB with heap := sB.heap.push { cls := .type "dict", data := .dict #[] } } : Shared) = sC
  have hpC : sC.heap = sB.heap.push { cls := .type "dict", data := .dict #[] } := by rw [← hsC]
  generalize hHC : upd HB dd (rawO dd #[]) = HC at w0
  have IC : Inv X pins σ HC sC := by
    rw [← hsC, ← hHC]
    exact IB.laid (t' := sB.toks) (fun b o e => Heap.get?_push_of_some _ e) (Nat.le_of_eq hd) (by rw [← hd]; exact raw_empty sB.heap IB.big)
  have lt : ∀ b ∈ fp, b < sB.heap.objs.size := fun b hb => by
    obtain ⟨o, e, _⟩ := TU.obj _ _ stB b hb
    exact Heap.lt_size e
  have fC : ∀ b ∈ fp, FpOk X pins HC b ∧ b < sC.heap.objs.size := fun b hb => by
    refine ⟨⟨?_, (fB b hb).2⟩, by rw [hpC, Heap.size_push]; exact Nat.lt_succ_of_lt (lt b hb)⟩
    rw [← hHC, upd_ne (by rw [← hd]; exact Nat.ne_of_lt (lt b hb))]
    exact (fB b hb).1
  have stC : tn 0 sC.heap := TU.keep _ _ _ stB fun b _ o e => by rw [hpC]; exact Heap.get?_push_of_some _ e
  have IE := block_start IC ok hnd fC
  -- the block's own context
  let cells := cellsFrom (sC.heap.objs.size + 1) scope.names (cloFrom X.env.cells scope.names [])
  have pg := hg sC HC sC.heap.objs.size cells fp
  have pt := ht sC HC sC.heap.objs.size cells fp
  have pk := hk sC HC sC.heap.objs.size cells fp
  have pv := hv sC HC sC.heap.objs.size cells fp
  have pp := hp sC HC sC.heap.objs.size cells fp
  show codeAny _ _ (.compStart (.DictComp kx vx [⟨tg, iter, ifs, 0⟩] scope pos) 0 (.ref it) (.ref dd) (compEnvC scope cells sC.heap.objs.size X.env)) _ { sC with heap := pushCells (sC.heap.push { cls := .type "dict", data := .dict #[] }) scope.names }
  change Inv (blkOf X scope sC HC sC.heap.objs.size cells fp) _ _ _ _ at IE
  generalize hY : blkOf X scope sC HC sC.heap.objs.size cells fp = Y at IE pg pt pk pv pp
  generalize hce : compEnvC scope cells sC.heap.objs.size X.env = ce
  have eY : Y = X.blk sC HC scope ce fp := by rw [← hY, ← hce]
  have hloc : ce.locals = sC.heap.objs.size := by rw [← hce]; rfl
  subst eY
  generalize hsE : ({ sC with heap := pushCells (sC.heap.push { cls := .type "dict", data := .dict #[] }) scope.names } : Shared) = sE at IE ⊢
  have stE : tn 0 sE.heap := TU.keep _ _ _ stC fun b _ o e => by rw [← hsE]; exact pushCells_keeps _ _ _ _ (Heap.get?_push_of_some _ e)
  have apart : ∀ {τ : L2.St} {H' : Hp} {s' : Shared}, Inv (X.blk sC HC scope ce fp) [] τ H' s' → (∀ b ∈ fp, H' b = none) → ∀ b ∈ fp, FpOk (X.blk sC HC scope ce fp) [] H' b := fun {τ H' s'} J' hn b hb =>
    ⟨hn b hb, (J'.ok.exf b hb).1, J'.ok.exfs b hb, .inl hb, fun x c e => (J'.ok.exf b hb).2 x c e, fun pr hpr => by cases hpr⟩
  refine (fun loop => codeAny_compStart_dict loop (TU.self X.A 0 _ _ _ stE loop)) ?_
  refine compLoop_anyD (fun n s' => ∃ i H', Inv (X.blk sC HC scope ce fp) [] (wipe σ (own.map (·.2))) H' s' ∧ tn i s'.heap ∧ (∀ b ∈ fp, H' b = none) ∧ W i n H') ?_ m0 ⟨0, HC, IE, stE, fun b hb => (fC b hb).1.1, w0⟩
  rintro n s5 ⟨i, H5, I5, st5, n5, w5⟩
  rcases turn i n H5 w5 with ⟨⟨stop, qq⟩, o5, ho5, mo5⟩ | ⟨go, Nx, hNx, step⟩
  · refine thnF (TU.done (X.blk sC HC scope ce fp) rfl rfl rfl hcalm i [] s5 _ H5 (fun _ _ => False) I5 (apart I5 n5) st5 stop) fun r s6 ⟨hr, I6⟩ => ?_
    subst hr
    have I7 : Inv X pins σ H5 s6 := IC.call' (ch := fp) I6.os I6.base I6.hok I6.bare fun b hb => ⟨(fC b hb).1.2.2.2.1, (fC b hb).1.2.1, (fC b hb).1.2.2.2.2.1, (fC b hb).1.2.2.2.2.2⟩
    have nC : H5 sC.heap.objs.size = none := by
      rw [← hloc]
      exact I6.free
    obtain ⟨m, hn, _⟩ := I6.loc
    have hn : s6.heap.Ns ce.locals m := hn
    rw [hloc] at hn
    obtain ⟨od, I8⟩ := I7.lock ho5 mo5
    have ne : sC.heap.objs.size ≠ dd := fun e => by rw [e, ho5] at nC; cases nC
    exact fin0 dd sC.heap.objs.size s6 m _ I8 (qq od o5 ho5 mo5) hn (IC.fpOk (Nat.le_refl sC.heap.objs.size) (by rw [upd_ne ne]; exact nC))
  · refine thnF (TU.item (X.blk sC HC scope ce fp) rfl rfl rfl hcalm i [] s5 _ H5 (fun _ _ => False) I5 (apart I5 n5) st5 go) fun r s6 ⟨u, hr, h6⟩ => ?_
    subst hr
    refine thnF h6 fun _ s7 ⟨x, H7, I7, r7, y7, st7, n7⟩ => ?_
    refine thnF (pg.run _ s7 _ H7 x u _ (I7.pinned (apart I7 n7) (TU.obj _ _ st7)) r7 (step x H7 y7)) fun _ s8 ⟨τ, H8, I8, hw8, q8⟩ => ?_
    refine thnF (pt.run _ s8 τ H8 _ I8 q8) fun b s9 ⟨H9, I9, q9⟩ => ?_
    have fin : ∀ {s' : Shared} {H' : Hp}, Inv (X.blk sC HC scope ce fp) ([] ++ pinsAt fp s7.heap) τ H' s' → Nx H' → ∃ m, m < n ∧ ∃ i H', Inv (X.blk sC HC scope ce fp) [] (wipe σ (own.map (·.2))) H' s' ∧ tn i s'.heap ∧ (∀ b ∈ fp, H' b = none) ∧ W i m H' := fun {s' H'} I' nx => by
      obtain ⟨m', hm, w'⟩ := hNx H' nx
      have pinned : ∀ b ∈ fp, ∀ o, s7.heap.get? b = some o → s'.heap.get? b = some o ∧ H' b = none := fun b hb o e =>
        have z := I'.pin (b, o) (List.mem_append_right _ (List.mem_append_right _ (mem_pinsAt hb e)))
        ⟨z.1, z.2.1⟩
      refine ⟨m', hm, i + 1, H', (I'.unpinned (pins := [])).weak (by rw [← hw8, wipe_length]) (fun j v e => ?_), TU.keep _ _ _ st7 fun b hb o e => (pinned b hb o e).1, fun b hb => ?_, w'⟩
      · rw [← hw8] at e
        exact (wipe_some e).1
      · obtain ⟨o, e, _⟩ := TU.obj _ _ st7 b hb
        exact (pinned b hb o e).2
    cases b with
    | false => exact fin I9 q9
    | true =>
      refine thnF (pk.run _ s9 τ H9 _ I9 q9) fun z s10 ⟨yk, H10, I10, r10, q10⟩ => ?_
      refine thnF (pv.run _ s10 τ H10 _ I10 q10) fun z2 s11 ⟨yv, H11, I11, r11, q11⟩ => ?_
      exact wpAny_mono (pp _ s11 τ H11 dd yk yv z z2 Nx (notedBy (model X.prog X.w) X.A ce fun e s' => _) I11 r10 r11 q11) (fun _ s12 ⟨H12, I12, nx⟩ => fin I12 nx) fun _ _ h => h
theorem pe_dx {kx vx tg iter : Expr} {ifs : List Expr} {scope : Scope} {own : List (Str × Nat)} {pos : Pos} {put : TPut} {wi : TI} {g : TG} {tt : TT} {tk tv : TE} (hcalm : X.calm = true) (hnd : X.N.Nodup)
    (hi : PI X tg iter wi) (ok : BlkOk X.N X.env.scope scope own) (hg : ∀ s H c cl fp, PG (blkOf X scope s H c cl fp) tg g) (ht : ∀ s H c cl fp, PTs (blkOf X scope s H c cl fp) ifs tt)
    (hk : ∀ s H c cl fp, PE (blkOf X scope s H c cl fp) kx tk) (hv : ∀ s H c cl fp, PE (blkOf X scope s H c cl fp) vx tv) (hp : ∀ s H c cl fp, PutOk (blkOf X scope s H c cl fp) put)
    (hfold : ∀ x, foldedSetIterable iter X.env x = pure x) : PE X (.DictComp kx vx [⟨tg, iter, ifs, 0⟩] scope pos) (tDx put wi g tt tk tv (own.map (·.2))) := by
  refine ⟨fun pins s σ H Q I h => ?_⟩
  rw [arm_eval_DictComp]
  refine dx_core hcalm I hnd hi ok hg ht hk hv hp hfold h fun a C s' m H' I' q hn f => ⟨m, hn, fun h'' sb => ?_⟩
  obtain ⟨f0, f1, f2, f3, f4, f5⟩ := f
  exact ⟨.ref a, H', I'.turned (t' := s'.toks) (fun b o hb e => (sb.2 b hb).trans e) f0 f1 f3 f4 f5, rfl, q⟩
/-- x = {..} on one line: the name takes the dict before the block's frame is let go -/
theorem ps_setDx {i : Nat} {y : Str} {py : Pos} {kx vx tg iter : Expr} {ifs : List Expr} {scope : Scope} {own : List (Str × Nat)} {pos spos : Pos} {put : TPut} {wi : TI} {g : TG} {tt : TT} {tk tv : TE} (hcalm : X.calm = true) (hnd : X.N.Nodup)
    (hy : X.N[i]? = some y) (hyl : X.env.scope.names.lookup y = some .local) (hsw : swapsWith (.DictComp kx vx [⟨tg, iter, ifs, 0⟩] scope pos) (some (.Name y py)) spos.line X.env = pure true)
    (hi : PI X tg iter wi) (ok : BlkOk X.N X.env.scope scope own) (hg : ∀ s H c cl fp, PG (blkOf X scope s H c cl fp) tg g) (ht : ∀ s H c cl fp, PTs (blkOf X scope s H c cl fp) ifs tt)
    (hk : ∀ s H c cl fp, PE (blkOf X scope s H c cl fp) kx tk) (hv : ∀ s H c cl fp, PE (blkOf X scope s H c cl fp) vx tv) (hp : ∀ s H c cl fp, PutOk (blkOf X scope s H c cl fp) put)
    (hfold : ∀ x, foldedSetIterable iter X.env x = pure x) : PS X (.Assign [.Name y py] (.DictComp kx vx [⟨tg, iter, ifs, 0⟩] scope pos) spos) (tAsg (tDx put wi g tt tk tv (own.map (·.2))) (gName i)) := by
  refine ⟨fun pins s σ H E I h => ?_⟩
  rw [exec_Assign_Name_used _ _ _ _ hsw]
  refine wpAny_bind (wpAny_standAt (wpAny_bind ?_))
  show wpAny _ X.A (do let _ ← comprehension (.DictComp kx vx [⟨tg, iter, ifs, 0⟩] scope pos) scope X.env (firstIterPos [⟨tg, iter, ifs, 0⟩] pos) newDict false (eval iter X.env) (some (assign (.Name y py) X.env))) _ _ s
  have h : tDx put wi g tt tk tv (own.map (·.2)) σ H (fun x H1 => gName i x σ H1 E.nx) := h
  refine wpAny_bind (thn (dx_core (Qf := fun _ s' => SP X pins E .next s') hcalm I hnd hi ok hg ht hk hv hp hfold h fun L c s' mm H' I' q hn f => ?_) fun _ s' hq => wpAny_pure (wpAny_pure hq))
  show wpAny _ _ (assign (.Name y py) X.env (.ref L)) _ _ _
  refine wpAny_assign_Name (store_ok2 (v := V.ref L) I' hnd hy (.inl hyl) rfl (fun s2 I2 ⟨a, sb, ha⟩ => ?_) (.inr hyl))
  obtain ⟨f0, f1, f2, f3, f4, f5⟩ := f
  have hne : c ≠ a := by
    rcases ha with z | z
    · rw [z]; exact f1
    · exact fun e => f4 y a z e.symm
  exact ⟨mm, hn.sameBut sb hne, fun h3 sb3 => ⟨_, H', I2.turned (t' := s2.toks) (fun b o hb e => (sb3.2 b hb).trans e) f0 f1 f3 f4 f5, q⟩⟩
end
end PL


set_option Elab.async false
set_option linter.all false
set_option maxRecDepth 100000
/-! PLm: expressions, each construct with the readings of its parts. -/
namespace PL
open PySem PySem.Spec PyProof.Rows L2
theorem bnd {α β : Type} {o : Option α} {f : α → Option β} {b : β} (h : o.bind f = some b) : ∃ a, o = some a ∧ f a = some b := Option.bind_eq_some_iff.mp h
theorem mpd {α β : Type} {o : Option α} {f : α → β} {b : β} (h : o.map f = some b) : ∃ a, o = some a ∧ f a = b := Option.map_eq_some_iff.mp h
theorem asB_some {o : Option D} {b : Bool} (h : asB o = some b) : o = some (.bool b) := by
  unfold asB at h
  split at h
  · cases h; rfl
  · cases h
theorem asI_some {o : Option D} {b : Int} (h : asI o = some b) : o = some (.int b) := by
  unfold asI at h
  split at h
  · cases h; rfl
  · cases h
/-- lists, tuples, dicts are not too long -/
def SzOk (H : Hp) : Prop := ∀ a, (∀ xs, Rd H a (.lst xs) → xs.length ≤ sizeLine) ∧ (∀ xs, Rd H a (.tup xs) → xs.length ≤ sizeLine) ∧ ∀ es, Rd H a (rawO a es) → es.size ≤ sizeLine
section
variable {X : Cx} {T : List D}
theorem szOkI {pins : List (Addr × Obj)} {s : Shared} {σ : L2.St} {H : Hp} (I : Inv X pins σ H s) : SzOk H := fun a => ⟨fun xs h => (h.ok I.hok).1, fun xs h => (h.ok I.hok).1, fun es h => (h.ok I.hok).1.2.1⟩
theorem SzOk.lst {K : PySem.W.Frag} {H : Hp} {a : Addr} {xs : List V} (z : SzOk H) (h : FzL K H a xs) : xs.length ≤ sizeLine := by
  rcases h with ⟨o, h⟩ | ⟨its, n, h1, h2, h3⟩
  · exact (z a).1 xs (.inr ⟨o, h⟩)
  · have := h3.length
    simp only [Array.length_toList] at this
    omega
theorem SzOk.tup {K : PySem.W.Frag} {H : Hp} {a : Addr} {xs : List V} (z : SzOk H) (h : TpT K H a xs) : xs.length ≤ sizeLine := by
  rcases h with ⟨o, h, _⟩ | ⟨o, its, n, h1, h2, h3, h4, h5, h6⟩
  · exact (z a).2.1 xs (.inr ⟨o, h⟩)
  · have := h6.length
    simp only [Array.length_toList] at this
    omega
theorem PEsz {e : Expr} {t : TE} (h : PE X e t) : PE X e (fun σ H Q => t σ H fun v H' => SzOk H' → Q v H') :=
  ⟨fun pins s σ H Q I q => thn (h.run pins s σ H _ I q) fun u s' ⟨v, H', I', r, q'⟩ => ⟨v, H', I', r, q' (szOkI I')⟩⟩
variable {N : List Str} {sc : Scope} {pos : Pos} {a b d e : Expr} {fa fb fd : RE D}
theorem two {p : PrW} {K : PySem.W.Frag} {g : D → D → Option D} {σ : L2.St} {H : Hp} {Q : VK} (h : tE p K (fun ρ => (fa ρ).bind fun x => (fb ρ).bind fun y => g x y) σ H Q) : tOp (rD p K g) (tE p K fa) (tE p K fb) σ H Q := by
  obtain ⟨ρ, r, E, hf, q⟩ := h
  obtain ⟨x, e1, hf⟩ := bnd hf
  obtain ⟨y, e2, hf⟩ := bnd hf
  exact ⟨ρ, x, E, e1, fun v H1 s1 r1 => ⟨ρ, y, E.same s1, e2, fun u H2 s2 r2 => ⟨x, y, r, Rp.keep s2.kp _ _ r1, r2, hf, fun w H3 s3 r3 => q w H3 ((s1.trans s2).trans s3) r3⟩⟩⟩
theorem twoC {p : PrW} {K : PySem.W.Frag} {g : D → D → Option Bool} {σ : L2.St} {H : Hp} {Q : VK} (h : tE p K (fun ρ => (fa ρ).bind fun x => (fb ρ).bind fun y => (g x y).map PyData.bool) σ H Q) : tOp (rC p K g) (tE p K fa) (tE p K fb) σ H Q := by
  obtain ⟨ρ, r, E, hf, q⟩ := h
  obtain ⟨x, e1, hf⟩ := bnd hf
  obtain ⟨y, e2, hf⟩ := bnd hf
  obtain ⟨c, e3, e4⟩ := mpd hf
  subst e4
  exact ⟨ρ, x, E, e1, fun v H1 s1 r1 => ⟨ρ, y, E.same s1, e2, fun u H2 s2 r2 => ⟨x, y, c, Rp.keep s2.kp _ _ r1, r2, e3, q _ _ (s1.trans s2) (rpBool.mpr rfl)⟩⟩⟩
/-- a test is a value's truth -/
theorem test_of {p : PrW} {K : PySem.W.Frag} {f : RE D} {σ : L2.St} {H : Hp} {Q : Bool → Hp → Prop} (h : tT p K (fun ρ => asB (f ρ)) σ H Q) : tE p K f σ H fun x H1 => ∃ k, x = .bl k ∧ Q k H1 := by
  obtain ⟨ρ, b, E, hf, q⟩ := h
  exact ⟨ρ, _, E, asB_some hf, fun v H' s r => ⟨b, rpBool.mp r, q H' s⟩⟩
theorem rt_val {f : RE D} (h : PE X e (tE (pX X) X.K f)) (he : ∀ whole, isTrue e X.env whole = (do let v ← whole; standAt e.pos; holding [v] (truthy v))) : PT X e (tT (pX X) X.K fun ρ => asB (f ρ)) :=
  PTwk (pt_val h he) fun σ H Q q => test_of q
theorem re_op (c : Ctx X) {o : Op2} (ha : PE X a (tE (pX X) X.K fa)) (hb : PE X b (tE (pX X) X.K fb)) : PE X (.BinOp a (opPy o) b pos) (tE (pX X) X.K fun ρ => (fa ρ).bind fun x => (fb ρ).bind fun y => opD o x y) :=
  PEwk (pe_op (op2 c o) ha hb) fun σ H Q h => two h
theorem re_cmp (c : Ctx X) {o : Cp} (ha : PE X a (tE (pX X) X.K fa)) (hb : PE X b (tE (pX X) X.K fb)) (hm : behindInMarks (cmpPy o) b = false) :
    PE X (.Compare a [cmpPy o] [b] pos) (tE (pX X) X.K fun ρ => (fa ρ).bind fun x => (fb ρ).bind fun y => (cmpD T o x y).map PyData.bool) :=
  PEwk (pe_cmpR (cmp2 c o) ha hb hm) fun σ H Q h => twoC h
theorem rt_cmp (c : Ctx X) {o : Cp} (ha : PE X a (tE (pX X) X.K fa)) (hb : PE X b (tE (pX X) X.K fb)) (hm : behindInMarks (cmpPy o) b = false) :
    PT X (.Compare a [cmpPy o] [b] pos) (tT (pX X) X.K fun ρ => asB ((fa ρ).bind fun x => (fb ρ).bind fun y => (cmpD T o x y).map PyData.bool)) :=
  PTwk (pt_cmpR (cmp2 c o) ha hb hm) fun σ H Q h => twoC (test_of h)
theorem three {p : PrW} {K : PySem.W.Frag} {g1 g2 : D → D → Option Bool} {σ : L2.St} {H : Hp} {Q : VK} (h : tE p K (fun ρ => (fa ρ).bind fun x => (fb ρ).bind fun y => (g1 x y).bind fun r => if r = true then (fd ρ).bind fun z => (g2 y z).map PyData.bool else some (.bool false)) σ H Q) :
    tChain (rC p K g1) (rC p K g2) (tE p K fa) (tE p K fb) (tE p K fd) σ H Q := by
  obtain ⟨ρ, r, E, hf, q⟩ := h
  obtain ⟨x, e1, hf⟩ := bnd hf
  obtain ⟨y, e2, hf⟩ := bnd hf
  obtain ⟨c, e3, hf⟩ := bnd hf
  refine ⟨ρ, x, E, e1, fun v H1 s1 r1 => ⟨ρ, y, E.same s1, e2, fun u H2 s2 r2 => ⟨x, y, c, Rp.keep s2.kp _ _ r1, r2, e3, c, rfl, ?_⟩⟩⟩
  cases c with
  | false =>
    cases hf
    exact q _ _ (s1.trans s2) (rpBool.mpr rfl)
  | true =>
    obtain ⟨z, e4, hf⟩ := bnd hf
    obtain ⟨k, e5, e6⟩ := mpd hf
    subst e6
    exact ⟨ρ, z, E.same (s1.trans s2), e4, fun w H3 s3 r3 => ⟨y, z, k, Rp.keep s3.kp _ _ r2, r3, e5, q _ _ ((s1.trans s2).trans s3) (rpBool.mpr rfl)⟩⟩
theorem re_chain (c : Ctx X) {o o' : Cp} (ha : PE X a (tE (pX X) X.K fa)) (hb : PE X b (tE (pX X) X.K fb)) (hd : PE X d (tE (pX X) X.K fd)) (hm : lastMarks [cmpPy o, cmpPy o'] [b, d] = false) :
    PE X (.Compare a [cmpPy o, cmpPy o'] [b, d] pos) (tE (pX X) X.K fun ρ => (fa ρ).bind fun x => (fb ρ).bind fun y => (cmpD T o x y).bind fun r => if r = true then (fd ρ).bind fun z => (cmpD T o' y z).map PyData.bool else some (.bool false)) :=
  PEwk (pe_chain (cmp2 c o) (cmp2 c o') ha hb hd hm) fun σ H Q h => three h
theorem rt_chain (c : Ctx X) {o o' : Cp} (ha : PE X a (tE (pX X) X.K fa)) (hb : PE X b (tE (pX X) X.K fb)) (hd : PE X d (tE (pX X) X.K fd)) (hm : lastMarks [cmpPy o, cmpPy o'] [b, d] = false) :
    PT X (.Compare a [cmpPy o, cmpPy o'] [b, d] pos) (tT (pX X) X.K fun ρ => asB ((fa ρ).bind fun x => (fb ρ).bind fun y => (cmpD T o x y).bind fun r => if r = true then (fd ρ).bind fun z => (cmpD T o' y z).map PyData.bool else some (.bool false))) :=
  PTwk (pt_chain (cmp2 c o) (cmp2 c o') ha hb hd hm) fun σ H Q h => three (test_of h)
/-! chains of three -/
def tChain3 (r1 r2 r3 : R2) (ta tb tc td : TE) : TE := fun σ H Q => ta σ H fun x H1 => tb σ H1 fun y H2 => r1 x y H2 fun z H3 => ∃ k, z = .bl k ∧ (if k = true then tc σ H3 fun w H4 => r2 y w H4 fun z2 H5 => ∃ k2, z2 = .bl k2 ∧ (if k2 = true then td σ H5 fun u H6 => r3 w u H6 Q else Q (.bl false) H5) else Q (.bl false) H3)
theorem pe_chain3 {op op' op'' : CmpOp} {r r' r'' : R2} {ta tb tc td : TE} {e4 : Expr} (ho : OpR X (compareOp op) r) (ho' : OpR X (compareOp op') r') (ho'' : OpR X (compareOp op'') r'') (ha : PE X a ta) (hb : PE X b tb) (hc : PE X d tc) (hd : PE X e4 td)
    (hm : lastMarks [op, op', op''] [b, d, e4] = false) : PE X (.Compare a [op, op', op''] [b, d, e4] pos) (tChain3 r r' r'' ta tb tc td) := by
  refine ⟨fun pins s σ H Q I h => ?_⟩
  refine Compare_chain (thn (ha.run pins s σ H _ I h) fun v s1 ⟨x, H1, I1, r1, q1⟩ => chain_link (thn (hb.run pins s1 σ H1 _ I1 q1) fun u s2 ⟨y, H2, I2, r2, q2⟩ =>
    thn (ho pins s2 σ H2 x y v u _ I2 r1 r2 q2) fun d s3 ⟨z, H3, I3, r3, k, e, q3⟩ => ?_)) hm
  subst e
  cases r3
  refine wpAny_truthy_bool ?_
  cases k with
  | false => exact ite_ff ⟨.bl false, H3, I3, rfl, q3⟩
  | true =>
    refine ite_tt (chain_link (thn (hc.run pins s3 σ H3 _ I3 q3) fun w' s4 ⟨z', H4, I4, r4, q4⟩ => thn (ho' pins s4 σ H4 y z' u w' _ I4 r2 r4 q4) fun d' s5 ⟨z2, H5, I5, r5, k2, e2, q5⟩ => ?_))
    subst e2
    cases r5
    refine wpAny_truthy_bool ?_
    cases k2 with
    | false => exact ite_ff ⟨.bl false, H5, I5, rfl, q5⟩
    | true => exact ite_tt (chain_last (thn (hd.run pins s5 σ H5 _ I5 q5) fun w2 s6 ⟨z6, H6, I6, r6, q6⟩ => ho'' pins s6 σ H6 z' z6 w' w2 Q I6 r4 r6 q6))
theorem three3 {p : PrW} {K : PySem.W.Frag} {g1 g2 g3 : D → D → Option Bool} {fe : RE D} {σ : L2.St} {H : Hp} {Q : VK} (h : tE p K (fun ρ => (fa ρ).bind fun x => (fb ρ).bind fun y => (g1 x y).bind fun r => if r = true then (fd ρ).bind fun z => (g2 y z).bind fun q => if q = true then (fe ρ).bind fun w => (g3 z w).map PyData.bool else some (.bool false) else some (.bool false)) σ H Q) :
    tChain3 (rC p K g1) (rC p K g2) (rC p K g3) (tE p K fa) (tE p K fb) (tE p K fd) (tE p K fe) σ H Q := by
  obtain ⟨ρ, r, E, hf, q⟩ := h
  obtain ⟨x, e1, hf⟩ := bnd hf
  obtain ⟨y, e2, hf⟩ := bnd hf
  obtain ⟨c, e3, hf⟩ := bnd hf
  refine ⟨ρ, x, E, e1, fun v H1 s1 r1 => ⟨ρ, y, E.same s1, e2, fun u H2 s2 r2 => ⟨x, y, c, Rp.keep s2.kp _ _ r1, r2, e3, c, rfl, ?_⟩⟩⟩
  cases c with
  | false =>
    cases hf
    exact q _ _ (s1.trans s2) (rpBool.mpr rfl)
  | true =>
    obtain ⟨z, e4, hf⟩ := bnd hf
    obtain ⟨k, e5, hf⟩ := bnd hf
    refine ⟨ρ, z, E.same (s1.trans s2), e4, fun w H3 s3 r3 => ⟨y, z, k, Rp.keep s3.kp _ _ r2, r3, e5, k, rfl, ?_⟩⟩
    cases k with
    | false =>
      cases hf
      exact q _ _ ((s1.trans s2).trans s3) (rpBool.mpr rfl)
    | true =>
      obtain ⟨t, e6, hf⟩ := bnd hf
      obtain ⟨j, e7, e8⟩ := mpd hf
      subst e8
      exact ⟨ρ, t, E.same ((s1.trans s2).trans s3), e6, fun w2 H4 s4 r4 => ⟨z, t, j, Rp.keep s4.kp _ _ r3, r4, e7, q _ _ (((s1.trans s2).trans s3).trans s4) (rpBool.mpr rfl)⟩⟩
theorem pt_chain3 {op op' op'' : CmpOp} {r r' r'' : R2} {ta tb tc td : TE} {e4 : Expr} (ho : OpR X (compareOp op) r) (ho' : OpR X (compareOp op') r') (ho'' : OpR X (compareOp op'') r'') (ha : PE X a ta) (hb : PE X b tb) (hc : PE X d tc) (hd : PE X e4 td)
    (hm : lastMarks [op, op', op''] [b, d, e4] = false) : PT X (.Compare a [op, op', op''] [b, d, e4] pos) (tTest (tChain3 r r' r'' ta tb tc td)) := by
  refine ⟨fun pins s σ H Q I h => ?_⟩
  refine isTrue_chain (thn (ha.run pins s σ H _ I h) fun v s1 ⟨x, H1, I1, r1, q1⟩ => test_link (thn (hb.run pins s1 σ H1 _ I1 q1) fun u s2 ⟨y, H2, I2, r2, q2⟩ =>
    thn (ho pins s2 σ H2 x y v u _ I2 r1 r2 q2) fun d s3 ⟨z, H3, I3, r3, k, e, q3⟩ => ?_)) hm
  subst e
  cases r3
  refine wpAny_truthy_bool ?_
  cases k with
  | false =>
    obtain ⟨k', e', q'⟩ := q3
    cases e'
    exact ite_ff ⟨H3, I3, q'⟩
  | true =>
    refine ite_tt (test_link (thn (hc.run pins s3 σ H3 _ I3 q3) fun w' s4 ⟨z', H4, I4, r4, q4⟩ => thn (ho' pins s4 σ H4 y z' u w' _ I4 r2 r4 q4) fun d' s5 ⟨z2, H5, I5, r5, k2, e2, q5⟩ => ?_))
    subst e2
    cases r5
    refine wpAny_truthy_bool ?_
    cases k2 with
    | false =>
      obtain ⟨k', e', q'⟩ := q5
      cases e'
      exact ite_ff ⟨H5, I5, q'⟩
    | true =>
      refine ite_tt (test_last (thn (hd.run pins s5 σ H5 _ I5 q5) fun w2 s6 ⟨z6, H6, I6, r6, q6⟩ => thn (ho'' pins s6 σ H6 z' z6 w' w2 _ I6 r4 r6 q6) fun d2 s7 ⟨z7, H7, I7, r7, k3, e3, q7⟩ => ?_))
      subst e3
      cases r7
      exact wpAny_truthy_bool ⟨H7, I7, q7⟩
theorem rt_chain3 (c : Ctx X) {o o' o'' : Cp} {e4 : Expr} {fe : RE D} (ha : PE X a (tE (pX X) X.K fa)) (hb : PE X b (tE (pX X) X.K fb)) (hd : PE X d (tE (pX X) X.K fd)) (he : PE X e4 (tE (pX X) X.K fe)) (hm : lastMarks [cmpPy o, cmpPy o', cmpPy o''] [b, d, e4] = false) :
    PT X (.Compare a [cmpPy o, cmpPy o', cmpPy o''] [b, d, e4] pos) (tT (pX X) X.K fun ρ => asB ((fa ρ).bind fun x => (fb ρ).bind fun y => (cmpD T o x y).bind fun r => if r = true then (fd ρ).bind fun z => (cmpD T o' y z).bind fun q => if q = true then (fe ρ).bind fun w => (cmpD T o'' z w).map PyData.bool else some (.bool false) else some (.bool false))) :=
  PTwk (pt_chain3 (cmp2 c o) (cmp2 c o') (cmp2 c o'') ha hb hd he hm) fun σ H Q h => three3 (test_of h)
theorem re_chain3 (c : Ctx X) {o o' o'' : Cp} {e4 : Expr} {fe : RE D} (ha : PE X a (tE (pX X) X.K fa)) (hb : PE X b (tE (pX X) X.K fb)) (hd : PE X d (tE (pX X) X.K fd)) (he : PE X e4 (tE (pX X) X.K fe)) (hm : lastMarks [cmpPy o, cmpPy o', cmpPy o''] [b, d, e4] = false) :
    PE X (.Compare a [cmpPy o, cmpPy o', cmpPy o''] [b, d, e4] pos) (tE (pX X) X.K fun ρ => (fa ρ).bind fun x => (fb ρ).bind fun y => (cmpD T o x y).bind fun r => if r = true then (fd ρ).bind fun z => (cmpD T o' y z).bind fun q => if q = true then (fe ρ).bind fun w => (cmpD T o'' z w).map PyData.bool else some (.bool false) else some (.bool false)) :=
  PEwk (pe_chain3 (cmp2 c o) (cmp2 c o') (cmp2 c o'') ha hb hd he hm) fun σ H Q h => three3 h
/-! is None -/
theorem rp_none {p : PrW} {K : PySem.W.Frag} {H : Hp} {x : D} {v : V} (h : Rp p K H x v) : decide (v = .non) = isNo x := by
  cases x <;> simp only [Rp] at h
  · subst h; rfl
  · subst h; rfl
  · subst h; rfl
  · subst h; rfl
  · obtain ⟨_, _, e, _⟩ := h; subst e; rfl
  · obtain ⟨_, _, e, _⟩ := h; subst e; rfl
  · obtain ⟨_, e, _⟩ := h; subst e; rfl
theorem isn1 {p : PrW} {K : PySem.W.Frag} {σ : L2.St} {H : Hp} {Q : VK} (h : tE p K (fun ρ => (fa ρ).map fun x => .bool (isNo x)) σ H Q) : tIsN (tE p K fa) σ H Q := by
  obtain ⟨ρ, r, E, hf, q⟩ := h
  obtain ⟨x, e1, e2⟩ := mpd hf
  subst e2
  exact ⟨ρ, x, E, e1, fun v H1 s1 r1 => by simp only [rp_none r1]; exact q _ _ s1 (rpBool.mpr rfl)⟩
theorem isn2 {p : PrW} {K : PySem.W.Frag} {σ : L2.St} {H : Hp} {Q : VK} (h : tE p K (fun ρ => (fa ρ).map fun x => .bool (!isNo x)) σ H Q) : tNotN (tE p K fa) σ H Q := by
  obtain ⟨ρ, r, E, hf, q⟩ := h
  obtain ⟨x, e1, e2⟩ := mpd hf
  subst e2
  exact ⟨ρ, x, E, e1, fun v H1 s1 r1 => by simp only [rp_none r1]; exact q _ _ s1 (rpBool.mpr rfl)⟩
theorem re_isN {j pos'} (ha : PE X a (tE (pX X) X.K fa)) : PE X (.Compare a [.Is] [.Constant .none j pos'] pos) (tE (pX X) X.K fun ρ => (fa ρ).map fun x => .bool (isNo x)) := PEwk (pe_cmp (pc_isN ha)) fun σ H Q h => isn1 h
theorem rt_isN {j pos'} (ha : PE X a (tE (pX X) X.K fa)) : PT X (.Compare a [.Is] [.Constant .none j pos'] pos) (tT (pX X) X.K fun ρ => asB ((fa ρ).map fun x => .bool (isNo x))) := PTwk (pt_cmp (pc_isN ha)) fun σ H Q h => isn1 (test_of h)
theorem re_notN {j pos'} (ha : PE X a (tE (pX X) X.K fa)) : PE X (.Compare a [.IsNot] [.Constant .none j pos'] pos) (tE (pX X) X.K fun ρ => (fa ρ).map fun x => .bool (!isNo x)) := PEwk (pe_cmp (pc_notN ha)) fun σ H Q h => isn2 h
theorem rt_notN {j pos'} (ha : PE X a (tE (pX X) X.K fa)) : PT X (.Compare a [.IsNot] [.Constant .none j pos'] pos) (tT (pX X) X.K fun ρ => asB ((fa ρ).map fun x => .bool (!isNo x))) := PTwk (pt_cmp (pc_notN ha)) fun σ H Q h => isn2 (test_of h)
/-! and, or, not, if -/
variable {rest : List Expr}
abbrev fAnd (fa fb : RE D) : RE D := fun ρ => (asB (fa ρ)).bind fun x => if x = true then (asB (fb ρ)).map PyData.bool else some (.bool false)
abbrev fOr (fa fb : RE D) : RE D := fun ρ => (asB (fa ρ)).bind fun x => if x = true then some (.bool true) else (asB (fb ρ)).map PyData.bool
theorem re_and (ha : PE X a (tE (pX X) X.K fa)) (hb : PE X (.BoolOp .And (b :: rest) pos) (tE (pX X) X.K fb)) : PE X (.BoolOp .And (a :: b :: rest) pos) (tE (pX X) X.K (fAnd fa fb)) := by
  refine PEwk (pe_and ha hb) fun σ H Q ⟨ρ, r, E, hf, q⟩ => ?_
  obtain ⟨x, e1, hf⟩ := bnd hf
  refine ⟨ρ, _, E, asB_some e1, fun v H1 s1 r1 => ⟨x, rpBool.mp r1, ?_⟩⟩
  cases x with
  | false => cases hf; exact q _ _ s1 (rpBool.mpr rfl)
  | true =>
    obtain ⟨y, e2, e3⟩ := mpd hf
    subst e3
    exact ⟨ρ, _, E.same s1, asB_some e2, fun u H2 s2 r2 => q _ _ (s1.trans s2) r2⟩
theorem re_or (ha : PE X a (tE (pX X) X.K fa)) (hb : PE X (.BoolOp .Or (b :: rest) pos) (tE (pX X) X.K fb)) : PE X (.BoolOp .Or (a :: b :: rest) pos) (tE (pX X) X.K (fOr fa fb)) := by
  refine PEwk (pe_or ha hb) fun σ H Q ⟨ρ, r, E, hf, q⟩ => ?_
  obtain ⟨x, e1, hf⟩ := bnd hf
  refine ⟨ρ, _, E, asB_some e1, fun v H1 s1 r1 => ⟨x, rpBool.mp r1, ?_⟩⟩
  cases x with
  | true => cases hf; exact q _ _ s1 (rpBool.mpr rfl)
  | false =>
    obtain ⟨y, e2, e3⟩ := mpd hf
    subst e3
    exact ⟨ρ, _, E.same s1, asB_some e2, fun u H2 s2 r2 => q _ _ (s1.trans s2) r2⟩
theorem PTw {op : BoolOp} {vs : List Expr} {t : TT} (h : PT X (.BoolOp op vs pos) t) : L2.PW X (.BoolOp op vs pos) t := ⟨fun whole pins s σ H Q I q => h.run pins s σ H Q I q⟩
theorem rt_and (ha : PT X a (tT (pX X) X.K fun ρ => asB (fa ρ))) (hb : PT X (.BoolOp .And (b :: rest) pos) (tT (pX X) X.K fun ρ => asB (fb ρ))) : PT X (.BoolOp .And (a :: b :: rest) pos) (tT (pX X) X.K fun ρ => asB (fAnd fa fb ρ)) := by
  refine PTwk (pw_and ha (PTw hb)).pt fun σ H Q ⟨ρ, r, E, hf, q⟩ => ?_
  have hf := asB_some hf
  obtain ⟨x, e1, hf⟩ := bnd hf
  refine ⟨ρ, x, E, e1, fun H1 s1 => ?_⟩
  cases x with
  | false => cases hf; exact q _ s1
  | true =>
    obtain ⟨y, e2, e3⟩ := mpd hf
    cases e3
    exact ⟨ρ, r, E.same s1, e2, fun H2 s2 => q _ (s1.trans s2)⟩
theorem rt_or (ha : PT X a (tT (pX X) X.K fun ρ => asB (fa ρ))) (hb : PT X (.BoolOp .Or (b :: rest) pos) (tT (pX X) X.K fun ρ => asB (fb ρ))) : PT X (.BoolOp .Or (a :: b :: rest) pos) (tT (pX X) X.K fun ρ => asB (fOr fa fb ρ)) := by
  refine PTwk (pw_or ha (PTw hb)).pt fun σ H Q ⟨ρ, r, E, hf, q⟩ => ?_
  have hf := asB_some hf
  obtain ⟨x, e1, hf⟩ := bnd hf
  refine ⟨ρ, x, E, e1, fun H1 s1 => ?_⟩
  cases x with
  | true => cases hf; exact q _ s1
  | false =>
    obtain ⟨y, e2, e3⟩ := mpd hf
    cases e3
    exact ⟨ρ, r, E.same s1, e2, fun H2 s2 => q _ (s1.trans s2)⟩
abbrev fNot (fa : RE D) : RE D := fun ρ => (asB (fa ρ)).map fun x => .bool (!x)
theorem re_not (ha : PE X a (tE (pX X) X.K fa)) : PE X (.UnaryOp .Not a pos) (tE (pX X) X.K (fNot fa)) := by
  refine PEwk (pe_not ha) fun σ H Q ⟨ρ, r, E, hf, q⟩ => ?_
  obtain ⟨x, e1, e2⟩ := mpd hf
  subst e2
  exact ⟨ρ, _, E, asB_some e1, fun v H1 s1 r1 => ⟨x, rpBool.mp r1, q _ _ s1 (rpBool.mpr rfl)⟩⟩
theorem rt_not (ha : PT X a (tT (pX X) X.K fun ρ => asB (fa ρ))) : PT X (.UnaryOp .Not a pos) (tT (pX X) X.K fun ρ => asB (fNot fa ρ)) := by
  refine PTwk (pt_not ha) fun σ H Q ⟨ρ, r, E, hf, q⟩ => ?_
  obtain ⟨x, e1, e2⟩ := mpd (asB_some hf)
  cases e2
  exact ⟨ρ, x, E, e1, fun H1 s1 => q _ s1⟩
abbrev fIte (fc fa fb : RE D) : RE D := fun ρ => (asB (fc ρ)).bind fun x => if x = true then fa ρ else fb ρ
theorem re_ite {c : Expr} {fc : RE D} (hc : PT X c (tT (pX X) X.K fun ρ => asB (fc ρ))) (ha : PE X a (tE (pX X) X.K fa)) (hb : PE X b (tE (pX X) X.K fb)) : PE X (.IfExp c a b pos) (tE (pX X) X.K (fIte fc fa fb)) := by
  refine PEwk (pe_ifExp hc ha hb) fun σ H Q ⟨ρ, r, E, hf, q⟩ => ?_
  obtain ⟨x, e1, hf⟩ := bnd hf
  refine ⟨ρ, x, E, e1, fun H1 s1 => ?_⟩
  cases x with
  | true => exact ⟨ρ, r, E.same s1, hf, fun v H2 s2 r2 => q _ _ (s1.trans s2) r2⟩
  | false => exact ⟨ρ, r, E.same s1, hf, fun v H2 s2 r2 => q _ _ (s1.trans s2) r2⟩
theorem isT_ite {c : Expr} {fc : RE D} (hc : PT X c (tT (pX X) X.K fun ρ => asB (fc ρ))) (ha : PT X a (tT (pX X) X.K fun ρ => asB (fa ρ))) (hb : PT X b (tT (pX X) X.K fun ρ => asB (fb ρ))) : PT X (.IfExp c a b pos) (tT (pX X) X.K fun ρ => asB (fIte fc fa fb ρ)) := by
  refine ⟨fun pins s σ H Q I ⟨ρ, r, E, hf, q⟩ => ?_⟩
  have hf := asB_some hf
  obtain ⟨x, e1, hf⟩ := bnd hf
  show wpAny _ _ (do if ← isTrue c X.env (eval c X.env) then isTrue a X.env (eval a X.env) else isTrue b X.env (eval b X.env)) _ _ _
  refine wpAny_bind (thn (hc.run pins s σ H (fun y H1 => y = x ∧ Same H H1) I ⟨ρ, x, E, e1, fun H1 s1 => ⟨rfl, s1⟩⟩) fun y s1 ⟨H1, I1, ey, sm⟩ => ?_)
  subst ey
  cases y with
  | true => exact ha.run pins s1 σ H1 Q I1 ⟨ρ, r, E.same sm, (show asB (fa ρ) = some r by rw [show fa ρ = some (.bool r) from hf]; rfl), fun H2 s2 => q _ (sm.trans s2)⟩
  | false => exact hb.run pins s1 σ H1 Q I1 ⟨ρ, r, E.same sm, (show asB (fb ρ) = some r by rw [show fb ρ = some (.bool r) from hf]; rfl), fun H2 s2 => q _ (sm.trans s2)⟩
theorem rt_ite {c : Expr} {fc : RE D} (hc : PT X c (tT (pX X) X.K fun ρ => asB (fc ρ))) (ha : PT X a (tT (pX X) X.K fun ρ => asB (fa ρ))) (hb : PT X b (tT (pX X) X.K fun ρ => asB (fb ρ))) : PT X (.IfExp c a b pos) (tT (pX X) X.K fun ρ => asB (fIte fc fa fb ρ)) := isT_ite hc ha hb
/-! numbers, names, constants -/
theorem re_neg (ha : PE X a (tE (pX X) X.K fa)) : PE X (.UnaryOp .USub a pos) (tE (pX X) X.K fun ρ => (asI (fa ρ)).map fun z => .int (-z)) := by
  refine PEwk (pe_un un_neg ha) fun σ H Q ⟨ρ, r, E, hf, q⟩ => ?_
  obtain ⟨x, e1, e2⟩ := mpd hf
  subst e2
  exact ⟨ρ, _, E, asI_some e1, fun v H1 s1 r1 => ⟨x, rpInt.mp r1, q _ _ s1 (rpInt.mpr rfl)⟩⟩
theorem re_var {i : Nat} {x : Str} (hN : X.N[i]? = some x) (hv : Vis X.env.scope x) (hd : (x == ("__debug__" : Str)) = false) (hcd : (x == ("__classdict__" : Str)) = false) : PE X (.Name x pos) (tE (pX X) X.K fun ρ => ρ.get i) := by
  refine PEwk (pe_var hN hv hd hcd) fun σ H Q ⟨ρ, r, E, hf, q⟩ => ?_
  obtain ⟨v, e1, r1⟩ := E.get hf
  exact ⟨v, e1, q v H (Same.refl H) r1⟩
theorem re_cst {x : Str} {v : V} {u : Value} {k : D} (hg : Gl X x) (hm : X.mg x = some u) (r : RelV v u) (hk : ∀ H, Rp (pX X) X.K H k v) (hd : (x == ("__debug__" : Str)) = false) : PE X (.Name x pos) (tE (pX X) X.K fun _ => some k) :=
  PEwk (pe_glob hg hm r hd) fun σ H Q ⟨ρ, d, E, hf, q⟩ => by cases hf; exact q v H (Same.refl H) (hk H)
theorem re_cV {k : D} {v : V} {e : Expr} (h : PE X e (tC v)) (hk : ∀ H, Rp (pX X) X.K H k v) : PE X e (tE (pX X) X.K fun _ => some k) :=
  PEwk h fun σ H Q ⟨ρ, d, E, hf, q⟩ => by cases hf; exact q v H (Same.refl H) (hk H)
/-! arguments, calls, tuples, lists -/
variable {es : List Expr} {fs : RE (List D)}
theorem ra_nil : PA X [] (tA (pX X) X.K fun _ => some []) := PAwk pa_nil fun σ H Q ⟨ρ, ds, E, hf, q⟩ => by cases hf; exact q [] H (Same.refl H) .nil
theorem ra_cons (ha : PE X e (tE (pX X) X.K fa)) (hs : PA X es (tA (pX X) X.K fs)) (hst : starEach (e :: es) X.env = (false, eval e X.env) :: starEach es X.env) : PA X (e :: es) (tA (pX X) X.K fun ρ => (fa ρ).bind fun x => (fs ρ).map (x :: ·)) := by
  refine PAwk (pa_cons ha hs hst) fun σ H Q ⟨ρ, ds, E, hf, q⟩ => ?_
  obtain ⟨x, e1, hf⟩ := bnd hf
  obtain ⟨xs, e2, e3⟩ := mpd hf
  subst e3
  exact ⟨ρ, x, E, e1, fun v H1 s1 r1 => ⟨ρ, xs, E.same s1, e2, fun vs H2 s2 r2 => q _ _ (s1.trans s2) (.cons (Rp.keep s2.kp _ _ r1) r2)⟩⟩
theorem re_bi {x : Str} {p : Pos} {f : Bi} (c : Ctx X) (hg : Gl X x) (hm : X.mg x = none) (hv : bootBuiltins x = some (biVal f)) (ha : PA X (e :: es) (tA (pX X) X.K fs)) (hn : x ≠ "__name__") (hdb : (x == ("__debug__" : Str)) = false)
    (he : starEach (e :: es) X.env = (false, eval e X.env) :: starEach es X.env) (hpl : (backTo pos (starEach es X.env)).any (·.1) = false) : PE X (.Call (.Name x p) (e :: es) [] pos) (tE (pX X) X.K fun ρ => (fs ρ).bind (biD T f)) := by
  have w : ∀ σ H Q, tE (pX X) X.K (fun ρ => (fs ρ).bind (biD T f)) σ H Q → tCB (rDs (pX X) X.K (biD T f)) (tA (pX X) X.K fs) σ H Q := fun σ H Q ⟨ρ, r, E, hf, q⟩ => by
    obtain ⟨ds, e1, e2⟩ := bnd hf
    exact ⟨ρ, ds, E, e1, fun vs H1 s1 r1 => ⟨ds, r, r1, e2, fun v H2 s2 r2 => q v H2 (s1.trans s2) r2⟩⟩
  have h := bi2 (T := T) c f
  revert hv h
  cases f <;> intro hv h <;> first | exact PEwk (pe_callB h hg hm hv ha hn hdb he hpl) w | exact PEwk (pe_callTy h hg hm hv ha hn hdb he hpl) w
theorem re_bim {x : Str} {p : Pos} {f : Bi} {id : String} (c : Ctx X) (hg : Gl X x) (hf : biVal f = .builtin id) (hm : X.mg x = some (biVal f)) (ha : PA X (e :: es) (tA (pX X) X.K fs)) (hdb : (x == ("__debug__" : Str)) = false)
    (he : starEach (e :: es) X.env = (false, eval e X.env) :: starEach es X.env) (hpl : (backTo pos (starEach es X.env)).any (·.1) = false) : PE X (.Call (.Name x p) (e :: es) [] pos) (tE (pX X) X.K fun ρ => (fs ρ).bind (biD T f)) := by
  have h := bi2 (T := T) c f
  rw [hf] at h hm
  refine PEwk (pe_callBfun h hg hm ha hdb he hpl) fun σ H Q ⟨ρ, r, E, hf, q⟩ => ?_
  obtain ⟨ds, e1, e2⟩ := bnd hf
  exact ⟨ρ, ds, E, e1, fun vs H1 s1 r1 => ⟨ds, r, r1, e2, fun v H2 s2 r2 => q v H2 (s1.trans s2) r2⟩⟩
theorem re_isi {p p2 : Pos} {t : String} {ty : Str} (c : Ctx X) (hg : Gl X "isinstance") (hm : X.mg "isinstance" = none) (hg2 : Gl X ty) (hm2 : X.mg ty = none) (hv2 : bootBuiltins ty = some (.type t)) (hn2 : ty ≠ "__name__") (hd2 : (ty == ("__debug__" : Str)) = false) (ha : PE X a (tE (pX X) X.K fa))
    (he : starEach [a, .Name ty p2] X.env = (false, eval a X.env) :: starEach [.Name ty p2] X.env) : PE X (.Call (.Name "isinstance" p) [a, .Name ty p2] [] pos) (tE (pX X) X.K fun ρ => (fa ρ).bind fun x => (isiD t x).map PyData.bool) := by
  have hc : CallR X (.builtin "isinstance") (fun xs H Q => ∃ d b v, xs = [v, .ty t] ∧ Rp (pX X) X.K H d v ∧ isiD t d = some b ∧ Q (.bl b) H) := by
    intro pins s σ H xs us Q I r ⟨d, b, v, ex, hd, e1, q⟩
    subst ex
    obtain ⟨u1, u2, eu, r1, r2⟩ := vals2 r
    subst eu
    cases (show u2 = Value.type t from r2)
    exact isi2 c I r1 hd e1 q
  refine PEwk (pe_callB hc hg hm (by rfl) (pa_cons ha (pa_cons (pe_bltn (v := .ty t) hg2 hm2 hv2 rfl hn2 hd2) pa_nil) he) (by decide) (by decide) he) fun σ H Q ⟨ρ, r, E, hf, q⟩ => ?_
  obtain ⟨x, e1, hf⟩ := bnd hf
  obtain ⟨b, e2, e3⟩ := mpd hf
  subst e3
  exact ⟨ρ, x, E, e1, fun v H1 s1 r1 => ⟨x, b, v, rfl, r1, e2, q _ _ s1 (rpBool.mpr rfl)⟩⟩
theorem re_tup {x1 : Nat} (ha : PA X es (tA (pX X) X.K fs)) (hz : es.length ≤ 1000) (hl : ∀ ρ ds, fs ρ = some ds → ds.length = es.length) : PE X (.Tuple es x1 pos) (tE (pX X) X.K fun ρ => (fs ρ).map PyData.tuple) := by
  refine PEwk (pe_tupK ha) fun σ H Q ⟨ρ, r, E, hf, q⟩ => ?_
  obtain ⟨ds, e1, e2⟩ := mpd hf
  subst e2
  refine ⟨ρ, ds, E, e1, fun vs H1 s1 r1 => ⟨by rw [r1.len, hl ρ ds e1, sizeLine_eq]; omega, Give.tup (fun v H2 s2 r2 => q v H2 (s1.trans s2) r2) r1⟩⟩
theorem re_lst (ha : PA X es (tA (pX X) X.K fs)) (hz : es.length ≤ 1000) (hl : ∀ ρ ds, fs ρ = some ds → ds.length = es.length) : PE X (.List es pos) (tE (pX X) X.K fun ρ => (fs ρ).map PyData.list) := by
  refine ⟨fun pins s σ H Q I ⟨ρ, r, E, hf, q⟩ => ?_⟩
  obtain ⟨ds, e1, e2⟩ := mpd hf
  subst e2
  refine thn ((pe_lst ha).run pins s σ H (fun v H' => ∃ p o, v = .ref p ∧ H' p = some o ∧ Mut (some o) ∧ ∀ od, Q v (upd H' p (.frz od o))) I ⟨ρ, ds, E, e1, fun vs H1 s1 r1 => ⟨by rw [r1.len, hl ρ ds e1, sizeLine_eq]; omega, fun p hp => ⟨p, .lst vs, rfl, upd_same, True.intro, fun od => ?_⟩⟩⟩) fun u s' h => EPseal h
  rw [upd_upd]
  exact Give.lst (fun v H2 s2 r2 => q v H2 (s1.trans s2) r2) r1 p od hp
end
end PL


set_option Elab.async false
set_option linter.all false
set_option maxRecDepth 100000
/-! PLn: items, slices, look-ups, calls, comprehensions, what a loop goes through. -/
namespace PL
open PySem PySem.Spec PyProof.Rows L2
section
variable {X : Cx} {T : List D} {N : List Str} {sc : Scope} {pos : Pos} {a b d e : Expr} {fa fb fd : RE D}
theorem re_ix (c : Ctx X) (ha : PE X a (tE (pX X) X.K fa)) (hb : PE X b (tE (pX X) X.K fb)) (hs : PlainIx b) : PE X (.Subscript a b pos) (tE (pX X) X.K fun ρ => (fa ρ).bind fun x => (fb ρ).bind fun y => ixD T x y) :=
  PEwk (pe_ix (r := rD (pX X) X.K (ixD T)) (fun value slice pins s σ H x y v u Q I rx ry ⟨d, e, r, hd, he, hf, g⟩ hs => ix2 c d e r hf value slice pins s σ H x y v u Q I rx ry hd he g hs) ha hb hs) fun σ H Q h => two h
/-! slices -/
def tO (p : PrW) (K : PySem.W.Frag) (f : RE (Option Int)) : TO := fun σ H Q => ∃ ρ o, EnvOk p K H ρ σ ∧ f ρ = some o ∧ ∀ H', Same H H' → Q o H'
theorem ro_none : PO X none (tO (pX X) X.K fun _ => some none) := ⟨fun pins s σ H Q I ⟨ρ, o, E, hf, q⟩ => by cases hf; exact po_none.run pins s σ H Q I (q H (Same.refl H))⟩
theorem ro_some (ha : PE X a (tE (pX X) X.K fa)) : PO X (some a) (tO (pX X) X.K fun ρ => (asI (fa ρ)).map some) := ⟨fun pins s σ H Q I ⟨ρ, o, E, hf, q⟩ => by
  obtain ⟨i, e1, e2⟩ := mpd hf
  subst e2
  exact (po_some ha).run pins s σ H Q I ⟨ρ, _, E, asI_some e1, fun v H1 s1 r1 => ⟨i, rpInt.mp r1, q H1 s1⟩⟩⟩
theorem slD_or {x r : D} {l h : Option Int} (e : slD x l h = some r) : (∃ ds, x = .list ds ∧ r = .list (cutD ds l h)) ∨ ∃ ds, x = .tuple ds ∧ r = .tuple (cutD ds l h) := by
  cases x <;> simp only [slD, Option.some.injEq] at e <;> try (cases e; done)
  · exact .inl ⟨_, rfl, e.symm⟩
  · exact .inr ⟨_, rfl, e.symm⟩
theorem re_sl (c : Ctx X) {lo hi : Option Expr} {p2 : Pos} {fl fh : RE (Option Int)} (ha : PE X a (tE (pX X) X.K fa)) (hl : PO X lo (tO (pX X) X.K fl)) (hh : PO X hi (tO (pX X) X.K fh)) :
    PE X (.Subscript a (.Slice lo hi none p2) pos) (tE (pX X) X.K fun ρ => (fa ρ).bind fun x => (fl ρ).bind fun l => (fh ρ).bind fun h => slD x l h) := by
  refine ⟨fun pins s σ H Q I ⟨ρ, r, E, hf, q⟩ => ?_⟩
  obtain ⟨x, e1, hf⟩ := bnd hf
  obtain ⟨l, e2, hf⟩ := bnd hf
  obtain ⟨h, e3, hf⟩ := bnd hf
  rcases slD_or hf with ⟨ds, ex, er⟩ | ⟨ds, ex, er⟩ <;> subst ex er
  · refine thn ((pe_slice sl_list ha hl hh).run pins s σ H (fun v H' => ∃ p o, v = .ref p ∧ H' p = some o ∧ Mut (some o) ∧ ∀ od, Q v (upd H' p (.frz od o))) I ⟨ρ, _, E, e1, fun v H1 s1 r1 => ⟨ρ, l, E.same s1, e2, fun H2 s2 => ⟨ρ, h, E.same (s1.trans s2), e3, fun H3 s3 => ?_⟩⟩⟩) fun u s' h => EPseal h
    obtain ⟨p, xs, ev, h1, h2⟩ := rpLst.mp (Rp.keep (s2.trans s3).kp _ _ r1)
    refine ⟨p, xs, ev, h1.sq, fun p' hp => ⟨p', _, rfl, upd_same, True.intro, fun od => ?_⟩⟩
    rw [upd_upd]
    exact Give.lst (fun w H4 s4 r4 => q w H4 (((s1.trans s2).trans s3).trans s4) r4) (h2.cut l h) p' od hp
  · refine (pe_slice sl_tupK ha hl hh).run pins s σ H Q I ⟨ρ, _, E, e1, fun v H1 s1 r1 => ⟨ρ, l, E.same s1, e2, fun H2 s2 => ⟨ρ, h, E.same (s1.trans s2), e3, fun H3 s3 => ?_⟩⟩⟩
    obtain ⟨p, xs, ev, h1, h2⟩ := rpTup.mp (Rp.keep (s2.trans s3).kp _ _ r1)
    have g : Give (pX X) X.K H3 (.tuple (cutD ds l h)) Q := fun w H4 s4 r4 => q w H4 (((s1.trans s2).trans s3).trans s4) r4
    refine ⟨p, xs, ev, h1.sq, fun z => ?_, fun _ => g.tup (h2.cut l h)⟩
    have ec : cutD ds l h = ds := by
      unfold cutD
      rw [← h2.len, z.1, z.2]
      simp [h2.len]
    rw [ec] at g
    exact g _ H3 (Same.refl H3) (rpTup.mpr ⟨p, xs, rfl, h1, h2⟩)
theorem re_revL (c : Ctx X) {k : Nat} {p1 p2 p3 : Pos} (ha : PE X a (tE (pX X) X.K fa)) : PE X (.Subscript a (.Slice none none (some (.UnaryOp .USub (.Constant (.int 1) k p1) p2)) p3) pos) (tE (pX X) X.K fun ρ => (fa ρ).bind revD) := by
  refine ⟨fun pins s σ H Q I ⟨ρ, r, E, hf, q⟩ => ?_⟩
  obtain ⟨x, e1, hf⟩ := bnd hf
  cases x <;> simp only [revD] at hf <;> try (cases hf; done)
  cases hf
  refine thn ((pe_revL ha).run pins s σ H (fun v H' => ∃ p o, v = .ref p ∧ H' p = some o ∧ Mut (some o) ∧ ∀ od, Q v (upd H' p (.frz od o))) I ⟨ρ, _, E, e1, fun v H1 s1 r1 => ?_⟩) fun u s' h => EPseal h
  obtain ⟨p, xs, ev, h1, h2⟩ := rpLst.mp r1
  refine ⟨p, xs, ev, h1.sq, fun p' hp => ⟨p', _, rfl, upd_same, True.intro, fun od => ?_⟩⟩
  rw [upd_upd]
  exact Give.lst (fun w H4 s4 r4 => q w H4 (s1.trans s4) r4) h2.rev p' od hp
/-! dicts asked -/
/-- d.get(k, x) of whatever is a dict -/
theorem get2_run (c : Ctx X) {apos : Pos} {td : TE} (ha : PE X a td) (hb : PE X b (tE (pX X) X.K fb)) (hd : PE X d (tE (pX X) X.K fd)) (m : M2 X a "get" apos b d pos) {pins : List (Addr × Obj)} {s : Shared} {σ : L2.St} {H : Hp} {Q : VK} (I : Inv X pins σ H s)
    (h : td σ H fun x H1 => ∃ l es kvs k z q ρ, x = .ref l ∧ Rd H1 l (rawO l es) ∧ RpE (pX X) X.K H1 kvs es.toList ∧ NdK (kvs.map (·.1)) ∧ EnvOk (pX X) X.K H1 ρ σ ∧ fb ρ = some k ∧ fd ρ = some z ∧ kdOf T k = some q ∧ ∀ v H2, Same H1 H2 → Rp (pX X) X.K H2 ((lookD T kvs q).getD z) v → Q v H2) :
    wpAny (model X.prog X.w) X.A (eval (.Call (.Attribute a "get" apos) [b, d] [] pos) X.env) (EP X pins σ Q) X.xe s := by
  have hu := c.hu
  refine wpAny_Call_method m.base m.few m.line PySem.F.plainAttrs_dict PySem.F.slot_dict_get PySem.F.type_dict_get (thn (ha.run pins s σ H _ I h) fun u s1 ⟨x, H1, I1, rx, l, es, kvs, k, z, q, ρ, ex, h1, h2, h3, E, e1, e2, e3, g⟩ => ?_)
  subst ex
  obtain rfl : u = Value.ref l := rx
  obtain ⟨z1, z2, o, ep, z3, z4, z5⟩ := raw_at I1 h1
  refine ⟨⟨o, z3, z4.1⟩, no_dict z3 z4, ?_⟩
  rw [m.trees]
  refine Calls.callWith_builtin rfl (Calls.evalArgs_plain (Calls.spliced_cons (thn (hb.run pins s1 σ H1 (fun v H2 => Same H1 H2 ∧ Rp (pX X) X.K H2 k v) I1 ⟨ρ, k, E, e1, fun v H2 s2 r2 => ⟨s2, r2⟩⟩) fun iv s2 ⟨y, H2, I2, ry, sm2, r2⟩ =>
    Calls.spliced_cons (thn (hd.run pins s2 σ H2 (fun v H3 => Same H2 H3 ∧ Rp (pX X) X.K H3 z v) I2 ⟨ρ, z, E.same sm2, e2, fun v H3 s3 r3 => ⟨s3, r3⟩⟩) fun fv s3 ⟨w, H3, I3, rw', sm3, r3⟩ => Calls.spliced_nil ?_))))
  have sm := sm2.trans sm3
  have h1' : Rd H3 l (rawO l es) := h1.imp (fun e => sm _ _ e) fun ⟨o, e⟩ => ⟨o, sm _ _ e⟩
  have dk := dk_of (T := T) I3 h1' (RpE.keep sm.kp _ _ h2) h3 (Rp.keep sm3.kp _ _ r2) ry e3
  exact dk.get2 (T := T) (by omega) I3 rw' r3 fun v w' s4 I4 rv hv => ⟨v, H3, I4, rv, g v H3 sm hv⟩
theorem dget_eq {x y z r : D} (h : dget T x y z = some r) : ∃ kvs q, x = .dict kvs ∧ noO kvs = true ∧ kdOf T y = some q ∧ r = (lookD T kvs q).getD z := by
  cases x <;> simp only [dget] at h <;> try (cases h; done)
  obtain ⟨o, e1, e2⟩ := mpd h
  obtain ⟨hn, q, e3, e4⟩ := getK_eq e1
  exact ⟨_, q, rfl, hn, e3, by rw [← e2, e4]⟩
theorem re_get (c : Ctx X) {apos : Pos} (ha : PE X a (tE (pX X) X.K fa)) (hb : PE X b (tE (pX X) X.K fb)) (hd : PE X d (tE (pX X) X.K fd)) (m : M2 X a "get" apos b d pos) :
    PE X (.Call (.Attribute a "get" apos) [b, d] [] pos) (tE (pX X) X.K fun ρ => (fa ρ).bind fun x => (fb ρ).bind fun y => (fd ρ).bind fun z => dget T x y z) := by
  refine ⟨fun pins s σ H Q I ⟨ρ, r, E, hf, q⟩ => ?_⟩
  obtain ⟨x, e1, hf⟩ := bnd hf
  obtain ⟨y, e2, hf⟩ := bnd hf
  obtain ⟨z, e3, hf⟩ := bnd hf
  obtain ⟨kvs, qk, ex, hn, e4, er⟩ := dget_eq hf
  subst ex er
  refine get2_run (T := T) c ha hb hd m I ⟨ρ, _, E, e1, fun v H1 s1 r1 => ?_⟩
  obtain ⟨l, o, es, ev, h1, h2, h3⟩ := rp_raw r1 hn
  exact ⟨l, es, kvs, y, z, qk, ρ, ev, .inr ⟨o, h1⟩, h2, h3, E.same s1, e2, e3, e4, fun v H2 s2 r2 => q v H2 (s1.trans s2) r2⟩
/-! a dict of the def's own asked -/
theorem re_oget (c : Ctx X) {i : Nat} {x : Str} {apos p1 : Pos} (hN : X.N[i]? = some x) (hv : Vis X.env.scope x) (hd0 : (x == ("__debug__" : Str)) = false) (hcd : (x == ("__classdict__" : Str)) = false)
    (hb : PE X b (tE (pX X) X.K fb)) (hd : PE X d (tE (pX X) X.K fd)) (m : M2 X (.Name x p1) "get" apos b d pos) :
    PE X (.Call (.Attribute (.Name x p1) "get" apos) [b, d] [] pos) (tE (pX X) X.K fun ρ => (ρ.own i).bind fun x => (fb ρ).bind fun y => (fd ρ).bind fun z => dget T x y z) := by
  refine ⟨fun pins s σ H Q I ⟨ρ, r, E, hf, q⟩ => ?_⟩
  obtain ⟨x, e1, hf⟩ := bnd hf
  obtain ⟨y, e2, hf⟩ := bnd hf
  obtain ⟨z, e3, hf⟩ := bnd hf
  obtain ⟨kvs, qk, ex, hn, e4, er⟩ := dget_eq hf
  subst ex er
  obtain ⟨a', e6, es, h1, h2, h3⟩ := E.own e1
  exact get2_run (T := T) c (pe_var hN hv hd0 hcd) hb hd m I ⟨_, e6, a', es, kvs, y, z, qk, ρ, rfl, .inl h1, h2, h3, E, e2, e3, e4, fun v H2 s2 r2 => q v H2 s2 r2⟩
theorem re_oix (c : Ctx X) {T : List D} {i : Nat} {x : Str} {p1 : Pos} (hN : X.N[i]? = some x) (hv : Vis X.env.scope x) (hd0 : (x == ("__debug__" : Str)) = false) (hcd : (x == ("__classdict__" : Str)) = false) (hb : PE X b (tE (pX X) X.K fb)) (hs : PlainIx b) :
    PE X (.Subscript (.Name x p1) b pos) (tE (pX X) X.K fun ρ => (ρ.own i).bind fun x => (fb ρ).bind fun y => oixD T x y) := by
  refine PEwk (pe_ix ix_list (pe_var hN hv hd0 hcd) hb hs) fun σ H Q ⟨ρ, r, E, hf, q⟩ => ?_
  obtain ⟨x, e1, hf⟩ := bnd hf
  obtain ⟨y, e2, hf⟩ := bnd hf
  cases x <;> simp only [oixD] at hf <;> try (cases hf; done)
  cases y <;> simp only [oixD] at hf <;> try (cases hf; done)
  obtain ⟨a', e6, xs, h1, h2⟩ := E.own e1
  refine ⟨_, e6, ρ, _, E, e2, fun u H2 s2 r2 => ?_⟩
  obtain ⟨w', e3, e4⟩ := atI_get2 (RpA.keep s2.kp _ _ h2) hf
  exact ⟨a', xs, _, w', rfl, rpInt.mp r2, SqL.of (s2 _ _ h1), e3, q _ _ s2 e4⟩
/-! calls of defs -/
/-- a def's promise: the value of f -/
def spP (p : PrW) (K : PySem.W.Frag) (n : Nat) (f : List D → Option D) : Sp := fun vs H Q _ => vs.length = n ∧ ∃ ds r, RpA p K H ds vs ∧ f ds = some r ∧ ∀ v H', Same H H' → Rp p K H' r v → Q v H'
variable {es : List Expr} {fs : RE (List D)}
theorem re_call {k n : Nat} {f : Addr} {fdt : FuncData} {ps : List Str} {x : Str} {p : Pos} {F : List D → Option D} (FO : FnOk X.prog X.w X.K X.mg X.base CX0 k f fdt ps (spP (pX X) X.K n F)) (hr : Room k X.A) (hg : Gl X x) (hm : X.mg x = some (.ref f)) (hk : PySem.W.keepIn X.K (.ref f) = true) (hb : Binds X.K fdt ps [])
    (ha : PA X (e :: es) (tA (pX X) X.K fs)) (hn : (e :: es).length = n) (hl : ∀ ρ ds, fs ρ = some ds → ds.length = (e :: es).length) (hdb : (x == ("__debug__" : Str)) = false) (he : starEach (e :: es) X.env = (false, eval e X.env) :: starEach es X.env) (hpl : (backTo pos (starEach es X.env)).any (·.1) = false) :
    PE X (.Call (.Name x p) (e :: es) [] pos) (tE (pX X) X.K fun ρ => (fs ρ).bind F) := by
  refine PEwk (pe_call FO hr hg hm hk hb .nil (E := fun _ _ _ => False) (fun _ _ _ _ _ _ _ h => h.elim) ha hdb he hpl) fun σ H Q ⟨ρ, r, E, hf, q⟩ => ?_
  obtain ⟨ds, e1, e2⟩ := bnd hf
  refine ⟨ρ, ds, E, e1, fun vs H1 s1 r1 => ⟨by rw [List.append_nil, r1.len, hl ρ ds e1, hn], ds, r, by rw [List.append_nil]; exact r1, e2, fun v H2 s2 r2 => q v H2 (s1.trans s2) r2⟩⟩
theorem re_call0 {k : Nat} {f : Addr} {fdt : FuncData} {ps : List Str} {x : Str} {p : Pos} {F : List D → Option D} (FO : FnOk X.prog X.w X.K X.mg X.base CX0 k f fdt ps (spP (pX X) X.K 0 F)) (hr : Room k X.A) (hg : Gl X x) (hm : X.mg x = some (.ref f)) (hk : PySem.W.keepIn X.K (.ref f) = true) (hb : Binds X.K fdt ps [])
    (hdb : (x == ("__debug__" : Str)) = false) : PE X (.Call (.Name x p) [] [] pos) (tE (pX X) X.K fun _ => F []) := by
  refine PEwk (pe_call0 FO hr hg hm hk hb .nil (E := fun _ _ _ => False) (fun _ _ _ _ _ _ _ h => h.elim) hdb) fun σ H Q ⟨ρ, r, E, hf, q⟩ => ?_
  exact ⟨rfl, [], r, .nil, hf, q⟩
/-! what a loop goes through -/
variable {tg : Expr}
theorem ri_seq (c : Ctx X) (ha : PE X a (tE (pX X) X.K fa)) : PI X tg a (tI (pX X) X.K (fun ρ => (fa ρ).bind seqD) false) := by
  refine ⟨fun pins s σ H R I ⟨ρ, ds, E, hf, q⟩ => ?_⟩
  obtain ⟨x, e1, e2⟩ := bnd hf
  cases x <;> simp only [seqD] at e2 <;> try (cases e2; done)
  · cases e2
    refine (pi_list (PEsz ha)).run pins s σ H R I ⟨ρ, _, E, e1, fun v H1 s1 r1 z => ?_⟩
    obtain ⟨p, xs, ev, h1, h2⟩ := rpLst.mp r1
    exact ⟨p, ev, ⟨xs, h1.sq⟩, q _ _ s1 (gv_list (z.lst h1) h1 h2)⟩
  · cases e2
    refine (pi_tup (PEsz ha)).run pins s σ H R I ⟨ρ, _, E, e1, fun v H1 s1 r1 z => ?_⟩
    obtain ⟨p, xs, ev, h1, h2⟩ := rpTup.mp r1
    exact ⟨p, ev, ⟨xs, h1.sq⟩, q _ _ s1 (gv_tup (z.tup h1) h1 h2)⟩
  · split at e2
    · rename_i kvs hn
      cases e2
      refine (pi_keysR (PEsz ha)).run pins s σ H R I ⟨ρ, _, E, e1, fun v H1 s1 r1 z => ?_⟩
      obtain ⟨p, o, es, ev, h1, h2, h3⟩ := rp_raw r1 hn
      exact ⟨p, o, es, ev, h1, q _ _ s1 (gv_keys ((z p).2.2 es (.inr ⟨o, h1⟩)) h1 h2)⟩
    · cases e2
theorem ri_vals {apos : Pos} (ha : PE X a (tE (pX X) X.K fa)) (hbase : attributeBase a "values" X.env (eval a X.env) = eval a X.env) (hline : (apos.endLine == pos.line) = true) : PI X tg (.Call (.Attribute a "values" apos) [] [] pos) (tI (pX X) X.K (fun ρ => (fa ρ).bind valsI) false) := by
  refine PIwk (pi_valuesR (PEsz ha) hbase hline) fun σ H R ⟨ρ, ds, E, hf, q⟩ => ?_
  obtain ⟨x, e1, e2⟩ := bnd hf
  cases x <;> simp only [valsI] at e2 <;> try (cases e2; done)
  split at e2
  · rename_i hn
    cases e2
    refine ⟨ρ, _, E, e1, fun v H1 s1 r1 z => ?_⟩
    obtain ⟨p, o, es, ev, h1, h2, h3⟩ := rp_raw r1 hn
    exact ⟨p, o, es, ev, h1, q _ _ s1 (gv_vals ((z p).2.2 es (.inr ⟨o, h1⟩)) h1 h2)⟩
  · cases e2
theorem ri_items {apos : Pos} {elts : List Expr} {kk : Nat} {tpos : Pos} (ha : PE X a (tE (pX X) X.K fa)) (hbase : attributeBase a "items" X.env (eval a X.env) = eval a X.env) (hline : (apos.endLine == pos.line) = true) :
    PI X (.Tuple elts kk tpos) (.Call (.Attribute a "items" apos) [] [] pos) (tI (pX X) X.K (fun ρ => (fa ρ).bind itemsI) true) := by
  refine PIwk (pi_itemsR (PEsz ha) hbase hline) fun σ H R ⟨ρ, ds, E, hf, q⟩ => ?_
  obtain ⟨x, e1, e2⟩ := bnd hf
  cases x <;> simp only [itemsI] at e2 <;> try (cases e2; done)
  split at e2
  · rename_i hn
    cases e2
    refine ⟨ρ, _, E, e1, fun v H1 s1 r1 z => ?_⟩
    obtain ⟨p, o, es, ev, h1, h2, h3⟩ := rp_raw r1 hn
    exact ⟨p, o, es, ev, h1, q _ _ s1 (gv_items ((z p).2.2 es (.inr ⟨o, h1⟩)) h1 h2)⟩
  · cases e2
theorem PAsz1 (ha : PE X a (tE (pX X) X.K fa)) (he : starEach [a] X.env = (false, eval a X.env) :: starEach [] X.env) : PA X [a] (fun σ H Q => tE (pX X) X.K fa σ H fun x H1 => SzOk H1 → Q [x] H1) := pa_cons (PEsz ha) pa_nil he
theorem ri_enum (c : Ctx X) {elts : List Expr} {kk : Nat} {tpos p : Pos} (hg : Gl X "enumerate") (hm : X.mg "enumerate" = none) (ha : PE X a (tE (pX X) X.K fa)) (he : starEach [a] X.env = (false, eval a X.env) :: starEach [] X.env) :
    PI X (.Tuple elts kk tpos) (.Call (.Name "enumerate" p) [a] [] pos) (tI (pX X) X.K (fun ρ => (fa ρ).bind enumI) true) := by
  refine ⟨fun pins s σ H R I ⟨ρ, ds, E, hf, q⟩ => ?_⟩
  obtain ⟨x, e1, e2⟩ := bnd hf
  cases x <;> simp only [enumI] at e2 <;> try (cases e2; done)
  · cases e2
    refine (pi_enum hg hm (PAsz1 ha he) he).run pins s σ H R I ⟨ρ, _, E, e1, fun v H1 s1 r1 z => ?_⟩
    obtain ⟨p, xs, ev, h1, h2⟩ := rpLst.mp r1
    exact ⟨p, xs, by rw [ev], h1.sq, q _ _ s1 (gv_enumL (z.lst h1) h1 h2)⟩
  · cases e2
    refine (pi_enumT hg hm (PAsz1 ha he) he).run pins s σ H R I ⟨ρ, _, E, e1, fun v H1 s1 r1 z => ?_⟩
    obtain ⟨p, xs, ev, h1, h2⟩ := rpTup.mp r1
    exact ⟨p, xs, by rw [ev], h1.sq, q _ _ s1 (gv_enumT (z.tup h1) h1 h2)⟩
theorem ri_rng1 {p : Pos} (hg : Gl X "range") (hm : X.mg "range" = none) (ha : PE X a (tE (pX X) X.K fa)) (he : starEach [a] X.env = (false, eval a X.env) :: starEach [] X.env) : PI X tg (.Call (.Name "range" p) [a] [] pos) (tI (pX X) X.K (fun ρ => (asI (fa ρ)).bind fun z => rngD 0 z) false) := by
  refine PIwk (pi_range1 hg hm (pa_cons ha pa_nil he) he) fun σ H R ⟨ρ, ds, E, hf, q⟩ => ?_
  obtain ⟨z, e1, e2⟩ := bnd hf
  unfold rngD at e2
  split at e2
  · rename_i hz
    cases e2
    refine ⟨ρ, _, E, asI_some e1, fun v H1 s1 r1 => ⟨z, by rw [rpInt.mp r1], by omega, by omega, q _ _ s1 ?_⟩⟩
    rw [show (z - 0).toNat = z.toNat by omega]
    exact gv_rng (by rw [sizeLine_eq]; omega)
  · cases e2
theorem ri_rng2 {p : Pos} (hg : Gl X "range") (hm : X.mg "range" = none) (ha : PE X a (tE (pX X) X.K fa)) (hb : PE X b (tE (pX X) X.K fb)) (he : starEach [a, b] X.env = (false, eval a X.env) :: starEach [b] X.env) (he2 : starEach [b] X.env = (false, eval b X.env) :: starEach [] X.env) :
    PI X tg (.Call (.Name "range" p) [a, b] [] pos) (tI (pX X) X.K (fun ρ => (asI (fa ρ)).bind fun x => (asI (fb ρ)).bind fun y => rngD x y) false) := by
  refine PIwk (pi_range2 hg hm (pa_cons ha (pa_cons hb pa_nil he2) he) (by rw [he, he2]; rfl) he2) fun σ H R ⟨ρ, ds, E, hf, q⟩ => ?_
  obtain ⟨x, e1, hf⟩ := bnd hf
  obtain ⟨y, e2, hf⟩ := bnd hf
  unfold rngD at hf
  split at hf
  · rename_i hz
    cases hf
    exact ⟨ρ, _, E, asI_some e1, fun v H1 s1 r1 => ⟨ρ, _, E.same s1, asI_some e2, fun u H2 s2 r2 => ⟨x, y, by rw [rpInt.mp r1, rpInt.mp r2], ⟨by omega, by omega, by omega, by omega⟩, q _ _ (s1.trans s2) (gv_rng (by rw [sizeLine_eq]; omega))⟩⟩⟩
  · cases hf
theorem ri_rng3 {p : Pos} (hg : Gl X "range") (hm : X.mg "range" = none) (ha : PE X a (tE (pX X) X.K fa)) (hb : PE X b (tE (pX X) X.K fb)) (hd : PE X d (tE (pX X) X.K fd)) (he : starEach [a, b, d] X.env = (false, eval a X.env) :: starEach [b, d] X.env) (he2 : starEach [b, d] X.env = (false, eval b X.env) :: starEach [d] X.env) (he3 : starEach [d] X.env = (false, eval d X.env) :: starEach [] X.env)
    (hpl : (backTo pos (starEach [b, d] X.env)).any (·.1) = false) :
    PI X tg (.Call (.Name "range" p) [a, b, d] [] pos) (tI (pX X) X.K (fun ρ => (asI (fa ρ)).bind fun x => (asI (fb ρ)).bind fun y => (asI (fd ρ)).bind fun z => if z = -1 then rngDn x y else none) false) := by
  refine PIwk (pi_range3 hg hm (pa_cons ha (pa_cons hb (pa_cons hd pa_nil he3) he2) he) he hpl) fun σ H R ⟨ρ, ds, E, hf, q⟩ => ?_
  obtain ⟨x, e1, hf⟩ := bnd hf
  obtain ⟨y, e2, hf⟩ := bnd hf
  obtain ⟨z, e3, hf⟩ := bnd hf
  split at hf
  · rename_i ez
    subst ez
    unfold rngDn at hf
    split at hf
    · rename_i hz
      cases hf
      exact ⟨ρ, _, E, asI_some e1, fun v H1 s1 r1 => ⟨ρ, _, E.same s1, asI_some e2, fun u H2 s2 r2 => ⟨ρ, _, E.same (s1.trans s2), asI_some e3, fun w H3 s3 r3 => ⟨x, y, -1, _, by rw [rpInt.mp r1, rpInt.mp r2, rpInt.mp r3], RgC.neg (by omega) (by omega) (by omega) (by omega), q _ _ ((s1.trans s2).trans s3) (gv_rngC (by rw [sizeLine_eq]; omega))⟩⟩⟩⟩
    · cases hf
  · cases hf
end
end PL


set_option Elab.async false
set_option linter.all false
set_option maxRecDepth 100000
/-! PLo: comprehensions; list(d.values()). -/
namespace PL
open PySem PySem.Spec PyProof.Rows L2
open PySem.W (KdlSrc)
theorem wipe_ext : ∀ {vs : List Nat} {σ τ : L2.St}, σ.length = τ.length → (∀ j, j ∉ vs → σ[j]? = τ[j]?) → L2.wipe σ vs = L2.wipe τ vs := by
  intro vs σ τ hl h
  refine List.ext_getElem? fun j => ?_
  have off : ∀ {vs : List Nat} {σ : L2.St}, j ∉ vs → (L2.wipe σ vs)[j]? = σ[j]? := by
    intro vs
    induction vs with
    | nil => intro σ _; rfl
    | cons v r ih =>
      intro σ hj
      show ((L2.wipe σ r).set v none)[j]? = _
      rw [List.getElem?_set_ne (fun z => hj (by simp [z]))]
      exact ih fun z => hj (List.mem_cons_of_mem _ z)
  have on : ∀ {vs : List Nat} {σ : L2.St}, j ∈ vs → (L2.wipe σ vs)[j]? = if j < σ.length then some none else none := by
    intro vs
    induction vs with
    | nil => intro σ hj; cases hj
    | cons v r ih =>
      intro σ hj
      show ((L2.wipe σ r).set v none)[j]? = _
      by_cases hv : v = j
      · subst hv
        rw [List.getElem?_set]
        simp [wipe_length]
      · rw [List.getElem?_set_ne hv]
        exact ih ((List.mem_cons.mp hj).resolve_left fun z => hv z.symm)
  by_cases hj : j ∈ vs
  · rw [on hj, on hj, hl]
  · rw [off hj, off hj, h j hj]
theorem wipe_wipe {vs : List Nat} {σ τ : L2.St} {P : Pat} (h : Agr P (L2.wipe σ vs) τ) (hv : ∀ j ∈ P.vars, j ∈ vs) : L2.wipe τ vs = L2.wipe σ vs := by
  rw [wipe_ext (τ := L2.wipe σ vs) h.1 fun j hj => h.2 j fun z => hj (hv j z)]
  refine List.ext_getElem? fun j => ?_
  have off : ∀ {vs : List Nat} {σ : L2.St}, j ∉ vs → (L2.wipe σ vs)[j]? = σ[j]? := by
    intro vs
    induction vs with
    | nil => intro σ _; rfl
    | cons v r ih =>
      intro σ hj
      show ((L2.wipe σ r).set v none)[j]? = _
      rw [List.getElem?_set_ne (fun z => hj (by simp [z]))]
      exact ih fun z => hj (List.mem_cons_of_mem _ z)
  have on : ∀ {vs : List Nat} {σ : L2.St}, j ∈ vs → (L2.wipe σ vs)[j]? = if j < σ.length then some none else none := by
    intro vs
    induction vs with
    | nil => intro σ hj; cases hj
    | cons v r ih =>
      intro σ hj
      show ((L2.wipe σ r).set v none)[j]? = _
      by_cases hv : v = j
      · subst hv
        rw [List.getElem?_set]
        simp [wipe_length]
      · rw [List.getElem?_set_ne hv]
        exact ih ((List.mem_cons.mp hj).resolve_left fun z => hv z.symm)
  by_cases hj : j ∈ vs
  · rw [on hj, on hj, wipe_length]
  · rw [off hj]
theorem kp_upd {H : Hp} {a : Addr} {o o' : HO} (h : H a = some o) (mu : Mut (some o)) : Kp H (upd H a o') := by
  refine ⟨fun b xs e => ?_, fun b ob u e => ?_⟩
  all_goals
    by_cases hb : b = a
    · subst hb
      rw [h] at e
      cases e
      exact mu.elim
    · rw [upd_ne hb]; exact e
/-- old addresses stay, whatever stands at a new one -/
theorem same_off {H1 H2 : Hp} {a : Addr} {o : HO} (hn : H1 a = none) (s : Same H1 H2) : Same H1 (upd H2 a o) := fun b ob e => by
  rw [upd_ne (ne_of_none e hn)]
  exact s b ob e
section
variable {X : Cx} {T : List D} {pos : Pos}
theorem compL_cons {f : D → Option (Option D)} {d : D} {ds : List D} {out : List D} (h : compL f (d :: ds) = some out) : (f d = some none ∧ compL f ds = some out) ∨ ∃ x r, f d = some (some x) ∧ compL f ds = some r ∧ out = x :: r := by
  simp only [compL] at h
  obtain ⟨o, e1, e2⟩ := bnd h
  cases o with
  | none => exact .inl ⟨e1, e2⟩
  | some x =>
    obtain ⟨r, e3, e4⟩ := mpd e2
    exact .inr ⟨x, r, e1, e3, e4.symm⟩
theorem lc_read {own : List (Str × Nat)} {y : Bool} {P : Pat} {fi : RE (List D)} {fc : RE Bool} {fe : RE D} (hP : ∀ j ∈ P.vars, j ∈ own.map (·.2)) {σ : L2.St} {H : Hp} {Q : VK} (h : tE (pX X) X.K (fun ρ => (fi ρ).bind fun ds => (compL (stepL (own.map (·.2)) P fc fe ρ) ds).map PyData.list) σ H Q) :
    tLc (tI (pX X) X.K fi y) (tZ (pX X) X.K y P) (tT (pX X) X.K fc) (tE (pX X) X.K fe) (own.map (·.2)) σ H (fun v H' => ∃ p o, v = .ref p ∧ H' p = some o ∧ Mut (some o) ∧ ∀ od, Q v (upd H' p (.frz od o))) := by
  obtain ⟨ρ, r, E, hf, q⟩ := h
  obtain ⟨ds, e1, hf⟩ := bnd hf
  obtain ⟨out, e2, e3⟩ := mpd hf
  subst e3
  refine ⟨ρ, ds, E, e1, fun J H1 s1 g a ha => ?_⟩
  obtain ⟨sz, G, Y, wk, hG, hY⟩ := g
  refine lc_it wk (fun i H2 => Same H1 H2 ∧ ∃ vs o1 o2, H2 a = some (.lst vs) ∧ RpA (pX X) X.K H2 o1 vs ∧ compL (stepL (own.map (·.2)) P fc fe ρ) (ds.drop i) = some o2 ∧ out = o1 ++ o2 ∧ vs.length ≤ i) ?_ ?_ ?_ ?_
  · exact ⟨same_new ha, [], [], out, upd_same, .nil, e2, rfl, Nat.le_refl 0⟩
  · exact fun i H2 _ ⟨s2, _⟩ => hG H2 s2.kp
  · intro i x H2 H3 hi' ⟨s2, vs, o1, o2, h1, h2, h3, h4, h5⟩ hy
    have ed : ds[i]? = some ds[i] := List.getElem?_eq_getElem hi'
    obtain ⟨s3, yd⟩ := hY i H2 x H3 _ s2.kp ed hy
    rw [List.drop_eq_getElem_cons hi'] at h3
    have hb : ∃ ρ1, bindP P ds[i] (wipeE ρ (own.map (·.2))) = some ρ1 ∧ ((fc ρ1 = some false ∧ compL (stepL (own.map (·.2)) P fc fe ρ) (ds.drop (i + 1)) = some o2) ∨ ∃ z r, fc ρ1 = some true ∧ fe ρ1 = some z ∧ compL (stepL (own.map (·.2)) P fc fe ρ) (ds.drop (i + 1)) = some r ∧ o2 = z :: r) := by
      rcases compL_cons h3 with ⟨k1, k2⟩ | ⟨z, r, k1, k2, k3⟩
      · obtain ⟨ρ1, b1, k1⟩ := bnd k1
        obtain ⟨b, b2, k1⟩ := bnd k1
        cases b with
        | false => exact ⟨ρ1, b1, .inl ⟨b2, k2⟩⟩
        | true =>
          obtain ⟨_, _, k4⟩ := mpd k1
          cases k4
      · obtain ⟨ρ1, b1, k1⟩ := bnd k1
        obtain ⟨b, b2, k1⟩ := bnd k1
        cases b with
        | false => cases k1
        | true =>
          obtain ⟨z', b3, k4⟩ := mpd k1
          cases k4
          exact ⟨ρ1, b1, .inr ⟨z, r, b2, b3, k2, k3⟩⟩
    obtain ⟨ρ1, b1, hb⟩ := hb
    have s13 : Same H1 H3 := s2.trans s3
    refine ⟨wipeE ρ (own.map (·.2)), ds[i], ρ1, (E.same (s1.trans s13)).wipe _, yd, b1, fun σ2 E2 ow ag => ⟨wipe_wipe ag hP, ?_⟩⟩
    rcases hb with ⟨b2, k2⟩ | ⟨z, r, b2, b3, k2, k3⟩
    · refine ⟨ρ1, false, E2, b2, fun H4 s4 => ?_⟩
      exact ⟨s13.trans s4, vs, o1, o2, s4 _ _ (s3 _ _ h1), RpA.keep (s3.trans s4).kp _ _ h2, k2, h4, Nat.le_succ_of_le h5⟩
    · refine ⟨ρ1, true, E2, b2, fun H4 s4 => ⟨ρ1, z, E2.same s4, b3, fun v H5 s5 r5 => ?_⟩⟩
      have h6 : H5 a = some (.lst vs) := s5 _ _ (s4 _ _ (s3 _ _ h1))
      have s15 : Same H1 H5 := (s13.trans s4).trans s5
      have kp : Kp H5 (upd H5 a (.lst (vs ++ [v]))) := kp_upd h6 True.intro
      refine ⟨vs, h6, by omega, same_off ha s15, vs ++ [v], o1 ++ [z], r, upd_same, RpA.app (RpA.keep (((s3.trans s4).trans s5).kp.trans kp) _ _ h2) (.cons (Rp.keep kp _ _ r5) .nil), k2, by rw [h4, k3, List.append_assoc]; rfl, by rw [List.length_append]; simp only [List.length_cons, List.length_nil]; omega⟩
  · rintro H2 ⟨s2, vs, o1, o2, h1, h2, h3, h4, h5⟩
    rw [List.drop_length] at h3
    simp only [compL, Option.some.injEq] at h3
    subst h3
    rw [List.append_nil] at h4
    subst h4
    refine ⟨a, .lst vs, rfl, h1, True.intro, fun od => ?_⟩
    have kp : Kp H2 (upd H2 a (.frz od (.lst vs))) := kp_upd h1 True.intro
    exact q _ _ (s1.trans (same_off ha s2)) (rpLst.mpr ⟨a, vs, rfl, .inl ⟨od, upd_same⟩, RpA.keep kp _ _ h2⟩)
theorem re_lc {tg iter elt : Expr} {ifs : List Expr} {scope : Scope} {own : List (Str × Nat)} {y : Bool} {P : Pat} {fi : RE (List D)} {fc : RE Bool} {fe : RE D} (c : Ctx X) (hi : PI X tg iter (tI (pX X) X.K fi y)) (ok : BlkOk X.N X.env.scope scope own) (hP : ∀ j ∈ P.vars, j ∈ own.map (·.2))
    (hg : ∀ s H b cl fp, PG (blkOf X scope s H b cl fp) tg (tZ (pX X) X.K y P)) (ht : ∀ s H b cl fp, PTs (blkOf X scope s H b cl fp) ifs (tT (pX X) X.K fc)) (he : ∀ s H b cl fp, PE (blkOf X scope s H b cl fp) elt (tE (pX X) X.K fe)) (hs : ∀ x, foldedSetIterable iter X.env x = pure x) :
    PE X (.ListComp elt [⟨tg, iter, ifs, 0⟩] scope pos) (tE (pX X) X.K fun ρ => (fi ρ).bind fun ds => (compL (stepL (own.map (·.2)) P fc fe ρ) ds).map PyData.list) := by
  exact ⟨fun pins s σ H Q I h => thn ((pe_lc c.calm c.nd hi ok hg ht he hs).run pins s σ H _ I (lc_read hP h)) fun u s' h => EPseal h⟩
/-! dict comprehensions -/
def putX (p : PrW) (K : PySem.W.Frag) (T : List D) : TPut := fun H a y z Qh => ∃ acc dk dv q, DAcc p K H a acc ∧ kdOf T dk = some q ∧ Rp p K H dk y ∧ Rp p K H dv z ∧ acc.length < sizeLine ∧ ∀ es, DAcc p K (upd H a (rawO a es)) a (putD T acc dk q dv) → Qh (upd H a (rawO a es))
theorem putX_ok (c : Ctx X) : PutOk X (putX (pX X) X.K T) := fun pins s σ H a y z u r Qh E I ry rz ⟨acc, dk, dv, q, h1, h2, h4, h5, h6, h7⟩ =>
  dict_store c I h1 h2 ry rz h4 h5 h6 fun s' es I' d' => ⟨_, I', h7 es d'⟩
theorem compDK_cons {f : D → Option (Option (D × D))} {d : D} {ds : List D} {acc out : List (D × D)} (h : compDK T f (d :: ds) acc = some out) : (f d = some none ∧ compDK T f ds acc = some out) ∨ ∃ k v q, f d = some (some (k, v)) ∧ kdOf T k = some q ∧ compDK T f ds (putD T acc k q v) = some out := by
  simp only [compDK] at h
  obtain ⟨o, e1, e2⟩ := bnd h
  cases o with
  | none => exact .inl ⟨e1, e2⟩
  | some kv =>
    obtain ⟨k, v⟩ := kv
    obtain ⟨q, e3, e4⟩ := bnd e2
    exact .inr ⟨k, v, q, e1, e3, e4⟩
theorem DAcc.keep {p : PrW} {K : PySem.W.Frag} {H H' : Hp} {a : Addr} {acc : List (D × D)} (h : DAcc p K H a acc) (s : Same H H') : DAcc p K H' a acc := by
  obtain ⟨es, h1, h2, h3⟩ := h
  exact ⟨es, s _ _ h1, RpE.keep s.kp _ _ h2, h3⟩
theorem DAcc.frz {p : PrW} {K : PySem.W.Frag} {H : Hp} {a : Addr} {acc : List (D × D)} (h : DAcc p K H a acc) : ∃ o, H a = some o ∧ Mut (some o) ∧ ∀ od, Rp p K (upd H a (.frz od o)) (.dict acc) (.ref a) := by
  obtain ⟨es, h1, h2, h3⟩ := h
  refine ⟨_, h1, True.intro, fun od => ?_⟩
  simp only [Rp]
  exact ⟨a, rfl, .inl ⟨od, es, upd_same, RpE.keep (kp_raw h1) _ _ h2, h3⟩⟩
theorem dc_read {own : List (Str × Nat)} {y : Bool} {P : Pat} {fi : RE (List D)} {fc : RE Bool} {fk fv : RE D} (hP : ∀ j ∈ P.vars, j ∈ own.map (·.2)) {σ : L2.St} {H : Hp} {Q : VK} (h : tE (pX X) X.K (fun ρ => (fi ρ).bind fun ds => (compDK T (stepDK (own.map (·.2)) P fc fk fv ρ) ds []).map PyData.dict) σ H Q) :
    tDx (putX (pX X) X.K T) (tI (pX X) X.K fi y) (tZ (pX X) X.K y P) (tT (pX X) X.K fc) (tE (pX X) X.K fk) (tE (pX X) X.K fv) (own.map (·.2)) σ H Q := by
  obtain ⟨ρ, r, E, hf, q⟩ := h
  obtain ⟨ds, e1, hf⟩ := bnd hf
  obtain ⟨out, e2, e3⟩ := mpd hf
  subst e3
  refine ⟨ρ, ds, E, e1, fun J H1 s1 g a ha => ?_⟩
  obtain ⟨sz, G, Y, wk, hG, hY⟩ := g
  refine ⟨fun i m H2 => m = ds.length - i ∧ i ≤ ds.length ∧ Same H1 H2 ∧ ∃ acc, DAcc (pX X) X.K H2 a acc ∧ compDK T (stepDK (own.map (·.2)) P fc fk fv ρ) (ds.drop i) acc = some out ∧ acc.length ≤ i, ⟨ds.length, by simp, Nat.zero_le _, same_new ha, [], ⟨#[], upd_same, by simp only [RpE], List.nodup_nil⟩, e2, Nat.le_refl 0⟩, ?_⟩
  rintro i m H2 ⟨em, hi', s2, acc, h1, h3, h5⟩
  by_cases hlt : i < ds.length
  · refine .inr ⟨wk.goes i H2 hlt (hG H2 s2.kp), _, fun H' p' => ⟨ds.length - (i + 1), by omega, p'⟩, fun x H3 hy => ?_⟩
    have ed : ds[i]? = some ds[i] := List.getElem?_eq_getElem hlt
    obtain ⟨s3, yd⟩ := hY i H2 x H3 _ s2.kp ed (wk.yields i H2 x H3 hlt (hG H2 s2.kp) hy)
    rw [List.drop_eq_getElem_cons hlt] at h3
    have s13 : Same H1 H3 := s2.trans s3
    have hb : ∃ ρ1, bindP P ds[i] (wipeE ρ (own.map (·.2))) = some ρ1 ∧ ((fc ρ1 = some false ∧ compDK T (stepDK (own.map (·.2)) P fc fk fv ρ) (ds.drop (i + 1)) acc = some out) ∨ ∃ k v q, fc ρ1 = some true ∧ fk ρ1 = some k ∧ fv ρ1 = some v ∧ kdOf T k = some q ∧ compDK T (stepDK (own.map (·.2)) P fc fk fv ρ) (ds.drop (i + 1)) (putD T acc k q v) = some out) := by
      rcases compDK_cons h3 with ⟨k1, k2⟩ | ⟨k, v, q', k1, k2, k4⟩
      · obtain ⟨ρ1, b1, k1⟩ := bnd k1
        obtain ⟨b, b2, k1⟩ := bnd k1
        cases b with
        | false => exact ⟨ρ1, b1, .inl ⟨b2, k2⟩⟩
        | true =>
          obtain ⟨_, _, k1⟩ := bnd k1
          obtain ⟨_, _, k4⟩ := mpd k1
          cases k4
      · obtain ⟨ρ1, b1, k1⟩ := bnd k1
        obtain ⟨b, b2, k1⟩ := bnd k1
        cases b with
        | false => cases k1
        | true =>
          obtain ⟨k', b3, k1⟩ := bnd k1
          obtain ⟨v', b4, k5⟩ := mpd k1
          cases k5
          exact ⟨ρ1, b1, .inr ⟨k, v, q', b2, b3, b4, k2, k4⟩⟩
    obtain ⟨ρ1, b1, hb⟩ := hb
    refine ⟨wipeE ρ (own.map (·.2)), ds[i], ρ1, (E.same (s1.trans s13)).wipe _, yd, b1, fun σ2 E2 ow ag => ⟨wipe_wipe ag hP, ?_⟩⟩
    rcases hb with ⟨b2, k2⟩ | ⟨k, v, q', b2, b3, b4, k2, k4⟩
    · refine ⟨ρ1, false, E2, b2, fun H4 s4 => ?_⟩
      exact ⟨rfl, hlt, s13.trans s4, acc, h1.keep (s3.trans s4), k2, Nat.le_succ_of_le h5⟩
    · refine ⟨ρ1, true, E2, b2, fun H4 s4 => ⟨ρ1, k, E2.same s4, b3, fun yv H5 s5 r5 => ⟨ρ1, v, E2.same (s4.trans s5), b4, fun zv H6 s6 r6 => ?_⟩⟩⟩
      refine ⟨acc, k, v, q', h1.keep (((s3.trans s4).trans s5).trans s6), k2, Rp.keep s6.kp _ _ r5, r6, by omega, fun o d' => ⟨rfl, hlt, same_off ha (((s13.trans s4).trans s5).trans s6), _, d', k4, ?_⟩⟩
      have := putD_len (T := T) (acc := acc) (k := k) (d := v) (q := q')
      omega
  · have ei : i = ds.length := by omega
    subst ei
    rw [List.drop_length] at h3
    simp only [compDK, Option.some.injEq] at h3
    subst h3
    obtain ⟨o, h6, h7, h8⟩ := h1.frz
    refine .inl ⟨⟨wk.stops H2 (hG H2 s2.kp), fun od o' e' mu => ?_⟩, o, h6, h7⟩
    rw [h6] at e'
    cases e'
    exact q _ _ (s1.trans (same_off ha s2)) (h8 od)
theorem re_dc {tg iter kx vx : Expr} {ifs : List Expr} {scope : Scope} {own : List (Str × Nat)} {y : Bool} {P : Pat} {fi : RE (List D)} {fc : RE Bool} {fk fv : RE D} (c : Ctx X) (hi : PI X tg iter (tI (pX X) X.K fi y)) (ok : BlkOk X.N X.env.scope scope own) (hP : ∀ j ∈ P.vars, j ∈ own.map (·.2))
    (hg : ∀ s H b cl fp, PG (blkOf X scope s H b cl fp) tg (tZ (pX X) X.K y P)) (ht : ∀ s H b cl fp, PTs (blkOf X scope s H b cl fp) ifs (tT (pX X) X.K fc)) (hk : ∀ s H b cl fp, PE (blkOf X scope s H b cl fp) kx (tE (pX X) X.K fk)) (hv : ∀ s H b cl fp, PE (blkOf X scope s H b cl fp) vx (tE (pX X) X.K fv))
    (cb : ∀ s H b cl fp, Ctx (blkOf X scope s H b cl fp)) (hs : ∀ x, foldedSetIterable iter X.env x = pure x) :
    PE X (.DictComp kx vx [⟨tg, iter, ifs, 0⟩] scope pos) (tE (pX X) X.K fun ρ => (fi ρ).bind fun ds => (compDK T (stepDK (own.map (·.2)) P fc fk fv ρ) ds []).map PyData.dict) := by
  exact PEwk (pe_dx (put := putX (pX X) X.K T) c.calm c.nd hi ok hg ht hk hv (fun s H b cl fp => putX_ok (cb s H b cl fp)) hs) fun σ H Q h => dc_read hP h
/-! list(d.values()) -/
theorem vals_each {p : PrW} {K : PySem.W.Frag} {H : Hp} : ∀ {kvs : List (D × D)} {l : List DictEntry} {us : List Value}, RpE p K H kvs l → us.length = l.length → (∀ (i : Nat) (u : Value), us[i]? = some u → ∃ e, l[i]? = some e ∧ u = e.val) → ∃ vs, Vals vs us ∧ RpA p K H (kvs.map (·.2)) vs
  | [], l, us, h, hl, _ => by
    simp only [RpE] at h
    subst h
    have e : us = [] := List.eq_nil_of_length_eq_zero (by simpa using hl)
    subst e
    exact ⟨[], .nil, .nil⟩
  | (k, d) :: r, l, us, h, hl, f => by
    simp only [RpE] at h
    obtain ⟨e, l', u, v, q, e1, e2, e3, e4, e5, e6, e7, e8⟩ := h
    subst e1
    cases us with
    | nil => simp at hl
    | cons w us =>
      obtain ⟨e9, h1, h2⟩ := f 0 w rfl
      simp at h1
      subst h1 h2
      obtain ⟨vs, g1, g2⟩ := vals_each e8 (by simpa using hl) fun i x hx => by
        obtain ⟨e9, h1, h2⟩ := f (i + 1) x (by simpa using hx)
        exact ⟨e9, by simpa using h1, h2⟩
      exact ⟨v :: vs, .cons e6 g1, .cons e7 g2⟩
theorem re_lrng {a : Expr} {fa : RE D} {p p2 pos2 : Pos} (c : Ctx X) (hg : Gl X "list") (hm : X.mg "list" = none) (hg2 : Gl X "range") (hm2 : X.mg "range" = none) (ha : PE X a (tE (pX X) X.K fa)) (he : starEach [a] X.env = (false, eval a X.env) :: starEach [] X.env) :
    PE X (.Call (.Name "list" p) [.Call (.Name "range" p2) [a] [] pos2] [] pos) (tE (pX X) X.K fun ρ => (asI (fa ρ)).bind fun z => (rngD 0 z).map PyData.list) := by
  refine ⟨fun pins s σ H Q I ⟨ρ, r, E, hf, q⟩ => ?_⟩
  obtain ⟨z, e1, hf⟩ := bnd hf
  obtain ⟨ds, e2, e3⟩ := mpd hf
  subst e3
  unfold rngD at e2
  split at e2
  · rename_i hb
    cases e2
    refine thn ((pe_listRg (pos := pos) c.calm hg hm (prg_1 hg2 hm2 ha he) rfl).run pins s σ H (fun v H' => ∃ p o, v = .ref p ∧ H' p = some o ∧ Mut (some o) ∧ ∀ od, Q v (upd H' p (.frz od o))) I ⟨ρ, .int z, E, asI_some e1, fun v H1 s1 r1 => ⟨z, rpInt.mp r1, ⟨by omega, by omega, by omega, by omega, by omega⟩, fun p hp => ⟨p, .lst (rgV 0 z), rfl, upd_same, True.intro, fun od => ?_⟩⟩⟩) fun u s' h => EPseal h
    rw [upd_upd]
    refine Give.lst (fun v H2 s2 r2 => q v H2 (s1.trans s2) r2) ?_ p od hp
    have h := rpa_of_ints (p := pX X) (K := X.K) (H := H1) ((List.range (z - 0).toNat).map fun i : Nat => (0 : Int) + (i : Nat))
    rw [List.map_map, List.map_map] at h
    exact h
  · cases e2
theorem re_lvals {e : Expr} {fa : RE D} {p apos cpos : Pos} (c : Ctx X) (ha : PE X e (tE (pX X) X.K fa)) (hg : Gl X "list") (hm : X.mg "list" = none) (hbase : attributeBase e "values" X.env (eval e X.env) = eval e X.env) (hline : (apos.endLine == cpos.line) = true)
    (hs : starEach [.Call (.Attribute e "values" apos) [] [] cpos] X.env = (false, eval (.Call (.Attribute e "values" apos) [] [] cpos) X.env) :: starEach [] X.env) :
    PE X (.Call (.Name "list" p) [.Call (.Attribute e "values" apos) [] [] cpos] [] pos) (tE (pX X) X.K fun ρ => (fa ρ).bind lvalsI) := by
  refine ⟨fun pins s σ H Q I ⟨ρ, r, E, hf, q⟩ => ?_⟩
  obtain ⟨x, e1, e2⟩ := bnd hf
  cases x <;> simp only [lvalsI] at e2 <;> try (cases e2; done)
  split at e2
  · rename_i kvs hk
    cases e2
    refine wpAny_Call_Name_kw (ld_blt I hg hm (u := .type "list") (by rfl) ?_)
    refine PyProof.Rows.callWith_type1 ?_ hs rfl
    rw [hs]
    show wpAny _ _ (spliced ((false, eval (.Call (.Attribute e "values" apos) [] [] cpos) X.env) :: backTo pos (starEach [] X.env))) _ _ s
    refine Calls.spliced_cons ?_
    refine wpAny_Call_method (T := "dict") (id := "dict.values") hbase rfl hline F.plainAttrs_dict F.slot_dict_values F.type_dict_values (thn (ha.run pins s σ H (fun v H1 => Same H H1 ∧ Rp (pX X) X.K H1 (.dict kvs) v) I ⟨ρ, _, E, e1, fun v H1 s1 r1 => ⟨s1, r1⟩⟩) fun u sA ⟨v, HA, IA, rv, sm, rd⟩ => ?_)
    obtain ⟨d, o, es, ev, h1, h2, h3⟩ := rp_raw rd hk
    subst ev
    cases rv
    obtain ⟨z1, z2, z3, z4, ep, z5⟩ := Inv.frzR IA h1
    have hm : sA.heap.DictRaw d es ep := ⟨o, z3, z4, z5⟩
    have IB : Inv X pins σ HA { sA with heap := sA.heap.push { cls := .type "dict_values", data := .fields #[.ref d] } } := IA.kept (t' := sA.toks) fun b ob q => Heap.get?_push_of_some _ q
    refine ⟨hm.typeIs, no_dict z3 z4, ?_⟩
    show wpAny _ _ (callWith cpos (.builtin "dict.values") [.ref d] [] []) _ X.xe sA
    refine method_meetsIn F.slot_dict_values F.entry_dict_values rfl (PySem.evalArgs_none ⟨rfl, hm.typeIs, F.args_dict_values_1 _, _, meets_dict_values_raw d z1, ⟨es, ep, hm⟩, ?_⟩)
    refine Calls.spliced_nil ?_
    refine PySem.W.kdl_call (KdlSrc.rawValues (es := es) (ep := ep) (r := sA.heap.objs.size) (d := d)) (IA.ok.hd c.calm) ⟨⟨_, Heap.get?_push_size _ rfl, rfl, rfl⟩, hm.at fun o e => Heap.get?_push_of_some _ e⟩ z2 fun h' tk acc cc hk' hS hacc => ?_
    obtain ⟨a1, a2⟩ := hacc
    obtain ⟨vs, g1, g2⟩ := vals_each (us := acc.toList) h2 (by simpa using a1) fun i u hu => by
      obtain ⟨hi, e⟩ := a2 i u (by rw [← Array.getElem?_toList]; exact hu)
      exact ⟨es[i], by rw [Array.getElem?_toList]; exact Array.getElem?_eq_getElem hi, e⟩
    have hn := IB.fresh
    have I2 := IB.laid (t' := tk) (h' := h') (a := (sA.heap.push { cls := .type "dict_values", data := .fields #[.ref d] }).objs.size) (o := .lst vs) hk' (Nat.le_refl _) ⟨by rw [g2.len, List.length_map, ← esz h2]; exact z2, acc.toList, cc, g1, by rw [hS]⟩
    obtain ⟨od, I3⟩ := I2.lock upd_same True.intro
    refine ⟨.ref _, _, I3, rfl, ?_⟩
    rw [upd_upd]
    exact q _ _ (sm.trans (same_new hn)) (rpLst.mpr ⟨_, vs, rfl, .inl ⟨od, upd_same⟩, RpA.keep (same_new hn).kp _ _ g2⟩)
  · cases e2
/-! len of a list or dict of the def's own -/
theorem re_olen (c : Ctx X) {i : Nat} {x : Str} {p p1 : Pos} (hg : Gl X "len") (hm : X.mg "len" = none) (hN : X.N[i]? = some x) (hv : Vis X.env.scope x) (hd0 : (x == ("__debug__" : Str)) = false) (hcd : (x == ("__classdict__" : Str)) = false) :
    PE X (.Call (.Name "len" p) [.Name x p1] [] pos) (tE (pX X) X.K fun ρ => (ρ.own i).bind olenD) := by
  have hc : CallR X (.builtin "len") (fun xs H Q => (∃ a ys, xs = [.ref a] ∧ SqL X.K H a ys ∧ Q (.int ys.length) H) ∨ (∃ a es, xs = [.ref a] ∧ H a = some (rawO a es) ∧ Q (.int es.size) H)) := by
    intro pins s σ H xs us Q I r h
    rcases h with ⟨a, ys, ex, h1, q⟩ | ⟨a, es, ex, h1, q⟩
    · exact call_len_seq pins s σ H xs us Q I r ⟨a, ys, ex, .inl h1, q⟩
    · subst ex
      obtain ⟨u, eu, rx⟩ := vals1 r
      subst eu
      cases rx
      obtain ⟨z1, z2, z3⟩ := raw_at I (.inl h1)
      exact GD.len_raw z3 z1 z2 fun t t' => ⟨.int es.size, H, I.tok _, ⟨t, rfl⟩, q⟩
  refine PEwk (pe_callB hc hg hm (by rfl) (pa_cons (pe_var hN hv hd0 hcd) pa_nil) (by decide) (by decide)) fun σ H Q ⟨ρ, r, E, hf, q⟩ => ?_
  obtain ⟨d, e1, e2⟩ := bnd hf
  obtain ⟨a, ha, ow⟩ := E.own e1
  refine ⟨_, ha, ?_⟩
  cases d <;> simp only [olenD] at e2 <;> try (cases e2; done)
  · cases e2
    obtain ⟨xs, h1, h2⟩ := ow
    exact .inl ⟨a, xs, rfl, .inl (.inl h1), by rw [h2.len]; exact q _ _ (Same.refl H) (rpInt.mpr rfl)⟩
  · cases e2
    obtain ⟨es, h1, h2, h3⟩ := ow
    exact .inr ⟨a, es, rfl, h1, by rw [esz h2]; exact q _ _ (Same.refl H) (rpInt.mpr rfl)⟩
end
end PL


set_option Elab.async false
set_option linter.all false
set_option maxRecDepth 100000
/-! PLp: which term of the small language a program's expression is; what is told of it holds. -/
namespace PL
open PySem PySem.Spec PyProof.Rows L2
/-- the static part: the frame's names, the built-in names that are free, the module's names of built-in functions -/
structure Mc where
  N : List Str
  fr : List Str
  mt : List (Str × Bi)
def knd (sc : Scope) (x : Str) (k : NameKind) : Bool := decide (sc.names.lookup x = some k)
def nam (x : Str) : Bool := !(x == ("__debug__" : Str)) && !(x == ("__classdict__" : Str)) && !(x == ("__name__" : Str))
def visB (m : Mc) (sc : Scope) (i : Nat) (x : Str) : Bool := decide (m.N[i]? = some x) && (knd sc x .local || knd sc x .cell || knd sc x .free) && nam x
def locB (m : Mc) (sc : Scope) (i : Nat) (x : Str) : Bool := decide (m.N[i]? = some x) && (knd sc x .local || knd sc x .cell) && nam x
def glB (sc : Scope) (x : Str) : Bool := knd sc x .globalImplicit && nam x
def frB (m : Mc) (sc : Scope) (x : Str) : Bool := glB sc x && m.fr.contains x
def biOf : List (Str × Bi) := [("len", .len), ("abs", .abs), ("int", .int), ("sum", .sum), ("all", .all), ("any", .any), ("sorted", .sorted), ("tuple", .tuple), ("list", .list), ("dict", .dict), ("max", .max), ("min", .min)]
def tyOf : List (Str × String) := [("int", "int"), ("bool", "bool"), ("tuple", "tuple"), ("str", "str"), ("list", "list")]
def biMod : Bi → Bool
  | .gcd => true
  | .lcm => true
  | .comb => true
  | _ => false
/-- patterns -/
def mPs (m : Mc) (sc : Scope) : Pat → List Expr → Bool
  | .nil, es => es.isEmpty
  | .v i, es => match es with
    | [.Name x _] => locB m sc i x
    | _ => false
  | .cons p ps, es => match es with
    | .Tuple es' _ _ :: r => p.isCh && mPs m sc p es' && mPs m sc ps r
    | .Name x q :: r => !p.isCh && mPs m sc p [.Name x q] && mPs m sc ps r
    | _ => false
def mP (m : Mc) (sc : Scope) (p : Pat) (e : Expr) : Bool := match e with
  | .Tuple es _ _ => p.isCh && mPs m sc p es
  | .Name x q => !p.isCh && mPs m sc p [.Name x q]
  | _ => false
def isTup : Expr → Bool
  | .Tuple _ _ _ => true
  | _ => false
/-- what yields new pairs -/
def Iu.pairs : Iu → Bool
  | .enum _ => true
  | .zip _ _ => true
  | .items _ => true
  | _ => false
def Exs.len : Exs → Nat
  | .nil => 0
  | .cons _ as => as.len + 1
def ownS (m : Mc) (own : List Nat) : List (Str × Nat) := own.map fun i => (m.N.getD i "", i)
def Pth.root : Pth → Bool
  | .v _ => true
  | _ => false
/-- not a call without arguments -/
def noC0 : Expr → Bool
  | .Call _ [] _ _ => false
  | _ => true
def noSl : Expr → Bool
  | .Slice _ _ _ _ => false
  | _ => true
mutual
def mE (m : Mc) (sc : Scope) : Ex → Expr → Bool
  | .v i, e => match e with
    | .Name x _ => visB m sc i x
    | _ => false
  | .non, e => match e with
    | .Constant .none _ _ => true
    | _ => false
  | .bl b, e => match e with
    | .Constant (.bool c) _ _ => decide (b = c)
    | _ => false
  | .int z, e => match e with
    | .Constant (.int c) _ _ => decide (z = c)
    | _ => false
  | .str z, e => match e with
    | .Constant (.str c) _ _ => decide (z = c)
    | _ => false
  | .g x, e => match e with
    | .Name y _ => decide (x = y) && glB sc y
    | _ => false
  | .op o a b, e => match e with
    | .BinOp l op r _ => decide (op = opPy o) && mE m sc a l && mE m sc b r
    | _ => false
  | .neg a, e => match e with
    | .UnaryOp .USub l _ => mE m sc a l
    | _ => false
  | .cmp c a b, e => match e with
    | .Compare l [op] [r] _ => decide (op = cmpPy c) && !behindInMarks (cmpPy c) r && mE m sc a l && mE m sc b r
    | _ => false
  | .chain c1 c2 a b d, e => match e with
    | .Compare l [op1, op2] [r, t] _ => decide (op1 = cmpPy c1) && decide (op2 = cmpPy c2) && !lastMarks [cmpPy c1, cmpPy c2] [r, t] && mE m sc a l && mE m sc b r && mE m sc d t
    | _ => false
  | .chain3 c1 c2 c3 a b d f, e => match e with
    | .Compare l [op1, op2, op3] [r, t, u] _ => decide (op1 = cmpPy c1) && decide (op2 = cmpPy c2) && decide (op3 = cmpPy c3) && !lastMarks [cmpPy c1, cmpPy c2, cmpPy c3] [r, t, u] && mE m sc a l && mE m sc b r && mE m sc d t && mE m sc f u
    | _ => false
  | .lrng a, e => match e with
    | .Call (.Name x _) [.Call (.Name y _) [l] [] _] [] _ => decide (x = "list") && decide (y = "range") && frB m sc x && frB m sc y && mE m sc a l
    | _ => false
  | .isN a, e => match e with
    | .Compare l [.Is] [.Constant .none _ _] _ => mE m sc a l
    | _ => false
  | .notN a, e => match e with
    | .Compare l [.IsNot] [.Constant .none _ _] _ => mE m sc a l
    | _ => false
  | .and_ a b, e => match e with
    | .BoolOp .And [v, w] pos => mE m sc a v && mE m sc b w
    | .BoolOp .And (v :: w :: u :: r) pos => mE m sc a v && mE m sc b (.BoolOp .And (w :: u :: r) pos)
    | _ => false
  | .or_ a b, e => match e with
    | .BoolOp .Or [v, w] pos => mE m sc a v && mE m sc b w
    | .BoolOp .Or (v :: w :: u :: r) pos => mE m sc a v && mE m sc b (.BoolOp .Or (w :: u :: r) pos)
    | _ => false
  | .not_ a, e => match e with
    | .UnaryOp .Not l _ => mE m sc a l
    | _ => false
  | .ite c a b, e => match e with
    | .IfExp t l r _ => mE m sc c t && mE m sc a l && mE m sc b r
    | _ => false
  | .call f as, e => match e with
    | .Call (.Name x _) es [] _ => decide (x = f) && glB sc x && mEs m sc as es
    | _ => false
  | .bi f as, e => match e with
    | .Call (.Name x _) (l :: es) [] _ => ((decide (biOf.lookup x = some f) && frB m sc x) || (decide (m.mt.lookup x = some f) && biMod f && glB sc x)) && mEs m sc as (l :: es)
    | _ => false
  | .isi a t, e => match e with
    | .Call (.Name x _) [l, .Name y _] [] _ => decide (x = "isinstance") && frB m sc x && frB m sc y && decide (tyOf.lookup y = some t) && mE m sc a l
    | _ => false
  | .tup as, e => match e with
    | .Tuple es _ _ => decide (es.length ≤ 1000) && mEs m sc as es
    | _ => false
  | .lst as, e => match e with
    | .List es _ => decide (es.length ≤ 1000) && mEs m sc as es
    | _ => false
  | .ix a b, e => match e with
    | .Subscript l r _ => noSl r && mE m sc a l && mE m sc b r
    | _ => false
  | .sl a lo hi, e => match e with
    | .Subscript l (.Slice p q none _) _ => mE m sc a l && mO m sc lo p && mO m sc hi q
    | _ => false
  | .rev a, e => match e with
    | .Subscript l (.Slice none none (some (.UnaryOp .USub (.Constant (.int z) _ _) _)) _) _ => decide (z = 1) && mE m sc a l
    | _ => false
  | .lc own elt p it cond, e => match e with
    | .ListComp el [⟨tg, iter, ifs, ia⟩] scope _ => decide (ia = 0) && blkC m.N sc scope (ownS m own) && p.vars.all (fun j => own.contains j) && (!it.pairs || isTup tg) && mI m sc it iter && mP m scope p tg && mC m scope cond ifs && mE m scope elt el
    | _ => false
  | .dc own k v p it cond, e => match e with
    | .DictComp ke ve [⟨tg, iter, ifs, ia⟩] scope _ => decide (ia = 0) && blkC m.N sc scope (ownS m own) && p.vars.all (fun j => own.contains j) && (!it.pairs || isTup tg) && mI m sc it iter && mP m scope p tg && mC m scope cond ifs && mE m scope k ke && mE m scope v ve
    | _ => false
  | .get a k d, e => match e with
    | .Call (.Attribute l x apos) [b, c] [] pos => decide (x = "get") && decide (apos.endLine = pos.line) && noC0 l && mE m sc a l && mE m sc k b && mE m sc d c
    | _ => false
  | .lvals a, e => match e with
    | .Call (.Name x _) [.Call (.Attribute l y apos) [] [] cpos] [] _ => decide (x = "list") && frB m sc x && decide (y = "values") && decide (apos.endLine = cpos.line) && noC0 l && mE m sc a l
    | _ => false
  | .oget i k d, e => match e with
    | .Call (.Attribute (.Name n _) x apos) [b, c] [] pos => decide (x = "get") && decide (apos.endLine = pos.line) && visB m sc i n && mE m sc k b && mE m sc d c
    | _ => false
  | .oix i k, e => match e with
    | .Subscript (.Name x _) r _ => noSl r && visB m sc i x && mE m sc k r
    | _ => false
  | .oin _ _ _, _ => false
  | .rd p, e => !p.root && mPth m sc p e
  | .pget _ _ _, _ => false
  | .pin _ _ _, _ => false
  | .plen _, _ => false
  | .olen i, e => match e with
    | .Call (.Name x _) [.Name y _] [] _ => decide (x = "len") && frB m sc x && visB m sc i y
    | _ => false
/-- a place -/
def mPth (m : Mc) (sc : Scope) : Pth → Expr → Bool
  | .v i, e => match e with
    | .Name x _ => visB m sc i x
    | _ => false
  | .ix p k, e => match e with
    | .Subscript l r _ => noSl r && mPth m sc p l && mE m sc k r
    | _ => false
  | .fld _ _, _ => false
def mEs (m : Mc) (sc : Scope) : Exs → List Expr → Bool
  | .nil, es => es.isEmpty
  | .cons a as, es => match es with
    | e :: r => mE m sc a e && mEs m sc as r
    | [] => false
def mO (m : Mc) (sc : Scope) : Ox → Option Expr → Bool
  | .non, e => e.isNone
  | .some a, e => match e with
    | some l => mE m sc a l
    | none => false
def mC (m : Mc) (sc : Scope) : Ox → List Expr → Bool
  | .non, es => es.isEmpty
  | .some a, es => match es with
    | [l] => mE m sc a l
    | _ => false
def mI (m : Mc) (sc : Scope) : Iu → Expr → Bool
  | .seq a, e => mE m sc a e
  | .rng1 a, e => match e with
    | .Call (.Name x _) [l] [] _ => decide (x = "range") && frB m sc x && mE m sc a l
    | _ => false
  | .rng2 a b, e => match e with
    | .Call (.Name x _) [l, r] [] _ => decide (x = "range") && frB m sc x && mE m sc a l && mE m sc b r
    | _ => false
  | .rng3 a b c, e => match e with
    | .Call (.Name x _) [l, r, t] [] _ => decide (x = "range") && frB m sc x && mE m sc a l && mE m sc b r && mE m sc c t
    | _ => false
  | .enum a, e => match e with
    | .Call (.Name x _) [l] [] _ => decide (x = "enumerate") && frB m sc x && mE m sc a l
    | _ => false
  | .zip _ _, _ => false
  | .vals a, e => match e with
    | .Call (.Attribute l y apos) [] [] pos => decide (y = "values") && decide (apos.endLine = pos.line) && noC0 l && mE m sc a l
    | _ => false
  | .items a, e => match e with
    | .Call (.Attribute l y apos) [] [] pos => decide (y = "items") && decide (apos.endLine = pos.line) && noC0 l && mE m sc a l
    | _ => false
end
end PL


set_option Elab.async false
set_option linter.all false
set_option maxRecDepth 100000
/-! PLq: the match is sound, for expressions. -/
namespace PL
open PySem PySem.Spec PyProof.Rows L2
/-- the frame's scope is the written one, or its block's own -/
structure Sc (X : Cx) (m : Mc) (sc : Scope) : Prop where
  hN : X.N = m.N
  vis : ∀ x, (knd sc x .local || knd sc x .cell || knd sc x .free) = true → Vis X.env.scope x
  loc : ∀ x, (knd sc x .local || knd sc x .cell) = true → Loc X.env.scope x ∧ (X.fn x = true ∨ X.env.scope.names.lookup x = some .local)
  gl : ∀ x, knd sc x .globalImplicit = true → L2.Gl X x
  up : ∀ x, (sc.names.lookup x = some .cell ∨ sc.names.lookup x = some .free) → X.env.scope.names.lookup x = some .cell ∨ X.env.scope.names.lookup x = some .free
/-- the module: its defs, constants, free names -/
structure GOk (X : Cx)  (G : Gb) (m : Mc) : Prop where
  fns : ∀ x F, G.fns x = some F → ∃ f fdt ps k n, FnOk X.prog X.w X.K X.mg X.base CX0 k f fdt ps (spP (pX X) X.K n F) ∧ Room k X.A ∧ X.mg x = some (.ref f) ∧ PySem.W.keepIn X.K (.ref f) = true ∧ Binds X.K fdt ps [] ∧ ∀ ds r, F ds = some r → ds.length = n
  cst : ∀ x d, G.cst x = some d → ∃ v u, X.mg x = some u ∧ RelV v u ∧ ∀ H, Rp (pX X) X.K H d v
  fr : ∀ x, m.fr.contains x = true → X.mg x = none
  mt : ∀ x f, m.mt.lookup x = some f → X.mg x = some (biVal f)
theorem nam1 {x : Str} (h : nam x = true) : (x == ("__debug__" : Str)) = false ∧ (x == ("__classdict__" : Str)) = false ∧ x ≠ "__name__" := by
  simp only [nam, Bool.and_eq_true, Bool.not_eq_true'] at h
  exact ⟨h.1.1, h.1.2, fun z => by rw [z] at h; simp at h⟩
theorem star_cons {e : Expr} {es : List Expr} {env : Env} (h : ∀ f p, e ≠ .Starred f p) : starEach (e :: es) env = (false, eval e env) :: starEach es env := by
  cases e <;> first | rfl | exact absurd rfl (h _ _)
theorem mE_star {m : Mc} {sc : Scope} {x : Ex} {e f : Expr} {p : Pos} (h : mE m sc x e = true) : e ≠ .Starred f p := by
  intro z
  subst z
  cases x with
  | rd p =>
    simp only [mE, Bool.and_eq_true] at h
    obtain ⟨_, h⟩ := h
    cases p <;> simp [mPth] at h
  | _ => simp [mE] at h
theorem mEs_plain {m : Mc} {sc : Scope} {env : Env} {pos : Pos} : ∀ {as : Exs} {es : List Expr}, mEs m sc as es = true → (backTo pos (starEach es env)).any (·.1) = false
  | .nil, es, h => by
    simp only [mEs] at h
    cases es with
    | nil => rfl
    | cons _ _ => cases h
  | .cons a as, es, h => by
    cases es with
    | nil => simp [mEs] at h
    | cons e r =>
      simp only [mEs, Bool.and_eq_true] at h
      rw [star_cons fun f p => mE_star h.1]
      show (backTo pos (starEach r env)).any (·.1) = false
      exact mEs_plain h.2
theorem mEs_len {m : Mc} {sc : Scope} : ∀ {as : Exs} {es : List Expr}, mEs m sc as es = true → as.len = es.length
  | .nil, es, h => by
    cases es with
    | nil => rfl
    | cons _ _ => simp [mEs] at h
  | .cons a as, es, h => by
    cases es with
    | nil => simp [mEs] at h
    | cons e r =>
      simp only [mEs, Bool.and_eq_true] at h
      simp [Exs.len, mEs_len h.2]
theorem evs_len {G : Gb} : ∀ {as : Exs} {ρ : En} {ds : List D}, evs G as ρ = some ds → ds.length = as.len
  | .nil, ρ, ds, h => by
    simp only [evs] at h
    cases h
    rfl
  | .cons a as, ρ, ds, h => by
    simp only [evs] at h
    obtain ⟨x, e1, h⟩ := bnd h
    obtain ⟨xs, e2, e3⟩ := mpd h
    subst e3
    simp [Exs.len, evs_len e2]
theorem boot_bi {x : Str} {f : Bi} (h : biOf.lookup x = some f) : bootBuiltins x = some (biVal f) := by
  have k : (biOf.all fun q => decide (bootBuiltins q.1 = some (biVal q.2))) = true := by decide +kernel
  have mem : (x, f) ∈ biOf := by
    revert h
    generalize biOf = l
    intro h
    induction l with
    | nil => cases h
    | cons q r ih =>
      obtain ⟨y, g⟩ := q
      rw [List.lookup_cons] at h
      by_cases e : x == y
      · rw [e] at h
        simp only [Option.some.injEq] at h
        rw [eq_of_beq e, ← h]
        exact List.mem_cons_self
      · simp only [e] at h
        exact List.mem_cons_of_mem _ (ih h)
  exact of_decide_eq_true (List.all_eq_true.mp k _ mem)
theorem boot_ty {x : Str} {f : String} (h : tyOf.lookup x = some f) : bootBuiltins x = some (.type f) := by
  have k : (tyOf.all fun q => decide (bootBuiltins q.1 = some (.type q.2))) = true := by decide +kernel
  have mem : (x, f) ∈ tyOf := by
    revert h
    generalize tyOf = l
    intro h
    induction l with
    | nil => cases h
    | cons q r ih =>
      obtain ⟨y, g⟩ := q
      rw [List.lookup_cons] at h
      by_cases e : x == y
      · rw [e] at h
        simp only [Option.some.injEq] at h
        rw [eq_of_beq e, ← h]
        exact List.mem_cons_self
      · simp only [e] at h
        exact List.mem_cons_of_mem _ (ih h)
  exact of_decide_eq_true (List.all_eq_true.mp k _ mem)
section
variable {X : Cx} {G : Gb} {m : Mc} {sc : Scope}
theorem blk_sc {scope : Scope} (S : Sc X m sc) (s : Shared) (H : Hp) (c : Addr) (cl : List (Str × Addr)) (fp : List Addr) : Sc (blkOf X scope s H c cl fp) m scope := by
  have keep : ∀ {x : Str} {k : NameKind}, k ≠ .free → scope.names.lookup x = some k → (blkOf X scope s H c cl fp).env.scope.names.lookup x = some k := fun hk h => lookup_relS_keep (sc := X.env.scope) hk h
  have free : ∀ {x : Str}, scope.names.lookup x = some .free → (blkOf X scope s H c cl fp).env.scope.names.lookup x = some .cell ∨ (blkOf X scope s H c cl fp).env.scope.names.lookup x = some .free := fun {x} h => by
    show (scope.names.map fun (n, k) => if (k == NameKind.free && X.env.scope.kind == .function && X.env.scope.names.lookup n == some .cell) then (n, NameKind.cell) else (n, k)).lookup x = some .cell ∨ (scope.names.map fun (n, k) => if (k == NameKind.free && X.env.scope.kind == .function && X.env.scope.names.lookup n == some .cell) then (n, NameKind.cell) else (n, k)).lookup x = some .free
    revert h
    generalize scope.names = l
    intro h
    induction l with
    | nil => cases h
    | cons q r ih =>
      obtain ⟨n, k⟩ := q
      rw [List.lookup_cons] at h
      rw [List.map_cons]
      by_cases e : x == n
      · simp only [e, Option.some.injEq] at h
        subst h
        simp only
        split
        · left; rw [List.lookup_cons, e]
        · right
          show List.lookup x ((n, NameKind.free) :: _) = _
          rw [List.lookup_cons, e]
      · simp only [e] at h
        have ih := ih h
        simp only
        split
        · rw [List.lookup_cons]; simp only [e]; exact ih
        · rw [List.lookup_cons]; simp only [e]; exact ih
  refine ⟨S.hN, fun x h => ?_, fun x h => ?_, fun x h => ?_, fun x h => ?_⟩
  · simp only [knd, Bool.or_eq_true, decide_eq_true_eq] at h
    rcases h with (h | h) | h
    · exact .inl (keep (by decide) h)
    · exact .inr (.inl (keep (by decide) h))
    · rcases free h with z | z
      · exact .inr (.inl z)
      · exact .inr (.inr z)
  · simp only [knd, Bool.or_eq_true, decide_eq_true_eq] at h
    rcases h with h | h
    · exact ⟨.inl (keep (by decide) h), .inr (keep (by decide) h)⟩
    · exact ⟨.inr (keep (by decide) h), .inl (by show (scope.names.lookup x == some .cell) = true; rw [h]; rfl)⟩
  · simp only [knd, decide_eq_true_eq] at h
    exact keep (by decide) h
  · rcases h with h | h
    · exact .inl (keep (by decide) h)
    · exact free h
theorem blk_ok {scope : Scope} {own : List (Str × Nat)} (S : Sc X m sc) (h : blkC m.N sc scope own = true) : BlkOk X.N X.env.scope scope own := by
  have k := blkOk_by h
  exact ⟨k.kind, k.uniq, by rw [S.hN]; exact k.ix, fun y hy e => S.up _ (k.free y hy e), by rw [S.hN]; exact k.own⟩
theorem blk_ctx {scope : Scope} (c : Ctx X) (s : Shared) (H : Hp) (b : Addr) (cl : List (Str × Addr)) (fp : List Addr) : Ctx (blkOf X scope s H b cl fp) := ⟨c.calm, c.nd, c.hu⟩
theorem blk_gok {scope : Scope} (g : GOk X G m) (s : Shared) (H : Hp) (b : Addr) (cl : List (Str × Addr)) (fp : List Addr) : GOk (blkOf X scope s H b cl fp) G m := ⟨g.fns, g.cst, g.fr, g.mt⟩
theorem S_vis (S : Sc X m sc) {i : Nat} {x : Str} (h : visB m sc i x = true) : X.N[i]? = some x ∧ Vis X.env.scope x ∧ (x == ("__debug__" : Str)) = false ∧ (x == ("__classdict__" : Str)) = false := by
  simp only [visB, Bool.and_eq_true, decide_eq_true_eq] at h
  obtain ⟨n1, n2, _⟩ := nam1 h.2
  exact ⟨by rw [S.hN]; exact h.1.1, S.vis x h.1.2, n1, n2⟩
theorem S_gl (S : Sc X m sc) {x : Str} (h : glB sc x = true) : L2.Gl X x ∧ (x == ("__debug__" : Str)) = false ∧ x ≠ "__name__" := by
  simp only [glB, Bool.and_eq_true] at h
  obtain ⟨n1, _, n2⟩ := nam1 h.2
  exact ⟨S.gl x h.1, n1, n2⟩
theorem S_fr (S : Sc X m sc) (g : GOk X G m) {x : Str} (h : frB m sc x = true) : L2.Gl X x ∧ X.mg x = none ∧ (x == ("__debug__" : Str)) = false ∧ x ≠ "__name__" := by
  simp only [frB, Bool.and_eq_true] at h
  obtain ⟨n1, n2, n3⟩ := S_gl S h.1
  exact ⟨n1, g.fr x h.2, n2, n3⟩
/-! patterns -/
theorem sP_one (c : Ctx X) (S : Sc X m sc) {i : Nat} {x : Str} {pos : Pos} (h : locB m sc i x = true) : PG X (.Name x pos) (tP (pX X) X.K (.v i)) := by
  simp only [locB, Bool.and_eq_true, decide_eq_true_eq] at h
  obtain ⟨l1, l2⟩ := S.loc x h.1.2
  refine PGwk2 (pg_name c.nd (by rw [S.hN]; exact h.1.1) l1 l2) fun v σ H Q ⟨ρ, d, ρ', E, r, e, q⟩ => ?_
  simp only [bindP] at e
  cases e
  exact q _ (E.set r) OwSub.set ⟨by simp, fun j hj => List.getElem?_set_ne (fun z => hj (by simp [Pat.vars, z]))⟩
end
end PL


set_option Elab.async false
set_option linter.all false
set_option maxRecDepth 100000
/-! PLr: the match is sound, for expressions. -/
namespace PL
open PySem PySem.Spec PyProof.Rows L2
section
variable {X : Cx} {G : Gb} {m : Mc} {sc : Scope}
theorem sx_of (c : Ctx X) (S : Sc X m sc) : Ctx X := c
/-- a tuple of targets, by parts -/
theorem rg_tup' (c : Ctx X) {es : List Expr} {k : Nat} {pos : Pos} {P : Pat} (hc : P.isCh = true) (h : PGs X es (tPs (pX X) X.K P)) (hn : (assignEach es X.env).length = P.len) (hst : (assignEach es X.env).findIdx? (·.1) = none) : PG X (.Tuple es k pos) (tY (pX X) X.K P) := by
  have hP : ∀ i, P ≠ .v i := fun i z => by subst z; cases hc
  refine ⟨fun pins s σ H v u Q I r ⟨ρ, d, ρ', E, y, e, q⟩ => ?_⟩
  have hu : ∃ ds, unpD d = some ds := by
    cases hd : unpD d with
    | some ds => exact ⟨ds, rfl⟩
    | none =>
      cases P with
      | v i => exact absurd rfl (hP i)
      | nil => simp [bindP, hd] at e
      | cons p ps => simp [bindP, hd] at e
  obtain ⟨ds, hu⟩ := hu
  rw [bindP_unp hP hu] at e
  have hl := bindP_len hc e
  rcases y with y | ⟨a, b, t, x1, x2, e1, e2, e3, r1, r2⟩
  · rcases unp_lst hu with z | z
    · subst z
      obtain ⟨a, xs, ev, h1, h2⟩ := rpTup.mp y
      exact (pg_tup c.calm h hn hst).run pins s σ H v u Q I r ⟨a, xs, ev, h1.sq, by rw [h2.len, hl], ρ, ds, ρ', E, h2, e, q⟩
    · subst z
      obtain ⟨a, xs, ev, h1, h2⟩ := rpLst.mp y
      exact (pg_lst c.calm h hn hst).run pins s σ H v u Q I r ⟨a, xs, ev, h1.sq, by rw [h2.len, hl], ρ, ds, ρ', E, h2, e, q⟩
  · subst e1
    simp only [unpD] at hu
    cases hu
    exact (pg_tup c.calm h hn hst).run pins s σ H v u Q I r ⟨t, [x1, x2], e2, .of e3, by rw [← hl]; rfl, ρ, _, ρ', E, .cons r1 (.cons r2 .nil), e, q⟩
theorem sPs (c : Ctx X) (S : Sc X m sc) : ∀ P : Pat, (P.isCh = true → ∀ es, mPs m sc P es = true → PGs X es (tPs (pX X) X.K P) ∧ (assignEach es X.env).length = P.len ∧ (assignEach es X.env).findIdx? (·.1) = none) ∧
    (P.isCh = false → ∀ x pos, mPs m sc P [.Name x pos] = true → PG X (.Name x pos) (tP (pX X) X.K P)) := by
  intro P
  induction P with
  | v i => exact ⟨fun h => (by cases h), fun _ x pos h => sP_one c S (by simpa only [mPs] using h)⟩
  | nil =>
    refine ⟨fun _ es h => ?_, fun h => (by cases h)⟩
    cases es with
    | nil => exact ⟨rgs_nil, rfl, rfl⟩
    | cons _ _ => simp [mPs] at h
  | cons p ps ihp ihps =>
    refine ⟨fun hc es h => ?_, fun hc x pos h => ?_⟩
    · have hc : ps.isCh = true := hc
      cases es with
      | nil => simp [mPs] at h
      | cons e r =>
        cases e with
        | Tuple es' k pos =>
          simp only [mPs, Bool.and_eq_true] at h
          obtain ⟨⟨h1, h2⟩, h3⟩ := h
          obtain ⟨a1, a2, a3⟩ := ihp.1 h1 es' h2
          obtain ⟨b1, b2, b3⟩ := ihps.1 hc r h3
          refine ⟨rgs_cons (rg_yp (rg_tup' c h1 a1 a2 a3)) b1 rfl, ?_, ?_⟩
          · show (assignEach r X.env).length + 1 = ps.len + 1
            rw [b2]
          · show ((false, assign (.Tuple es' k pos) X.env) :: assignEach r X.env).findIdx? (·.1) = none
            rw [List.findIdx?_cons, b3]
            rfl
        | Name x pos =>
          simp only [mPs, Bool.and_eq_true, Bool.not_eq_true'] at h
          obtain ⟨⟨h1, h2⟩, h3⟩ := h
          have a1 := ihp.2 h1 x pos h2
          obtain ⟨b1, b2, b3⟩ := ihps.1 hc r h3
          refine ⟨rgs_cons a1 b1 rfl, ?_, ?_⟩
          · show (assignEach r X.env).length + 1 = ps.len + 1
            rw [b2]
          · show ((false, assign (.Name x pos) X.env) :: assignEach r X.env).findIdx? (·.1) = none
            rw [List.findIdx?_cons, b3]
            rfl
        | _ => simp [mPs] at h
    · exfalso
      have hc : ps.isCh = false := hc
      simp only [mPs, Bool.and_eq_true] at h
      cases ps with
      | v j => simp [mPs] at h
      | nil => cases hc
      | cons q qs => simp [mPs] at h
theorem sP (c : Ctx X) (S : Sc X m sc) {P : Pat} {e : Expr} (h : mP m sc P e = true) : PG X e (tP (pX X) X.K P) := by
  unfold mP at h
  split at h
  · simp only [Bool.and_eq_true] at h
    obtain ⟨a1, a2, a3⟩ := (sPs c S P).1 h.1 _ h.2
    exact rg_yp (rg_tup' c h.1 a1 a2 a3)
  · simp only [Bool.and_eq_true, Bool.not_eq_true'] at h
    exact (sPs c S P).2 h.1 _ _ h.2
  · cases h
/-- .. of new pairs, too -/
theorem sPz (c : Ctx X) (S : Sc X m sc) {P : Pat} {e : Expr} {y : Bool} (hy : (!y || isTup e) = true) (h : mP m sc P e = true) : PG X e (tZ (pX X) X.K y P) := by
  cases y with
  | false => exact rg_z (sP c S h)
  | true =>
    unfold mP at h
    split at h
    · simp only [Bool.and_eq_true] at h
      obtain ⟨a1, a2, a3⟩ := (sPs c S P).1 h.1 _ h.2
      exact rg_zy (rg_tup' c h.1 a1 a2 a3)
    · cases hy
    · cases h
theorem base_of {e : Expr} {env : Env} {x : Str} (h : noC0 e = true) : attributeBase e x env (eval e env) = eval e env := by
  cases e with
  | Call f as ks pos =>
    cases as with
    | nil => cases h
    | cons a r => cases f <;> rfl
  | _ => rfl
theorem plain_ix {e : Expr} (h : noSl e = true) : PlainIx e := by
  intro o i
  cases e <;> first | rfl | cases h
theorem fold_of {m : Mc} {sc : Scope} {it : Iu} {e : Expr} {env : Env} (h : mI m sc it e = true) : ∀ x, foldedSetIterable e env x = pure x := by
  intro x
  cases e with
  | Set es k pos =>
    exfalso
    cases it with
    | seq a =>
      simp only [mI] at h
      cases a with
      | rd p =>
        simp only [mE, Bool.and_eq_true] at h
        obtain ⟨_, h⟩ := h
        cases p <;> simp [mPth] at h
      | _ => simp [mE] at h
    | _ => simp [mI] at h
  | _ => rfl
theorem m2_of {m : Mc} {sc : Scope} {o b d : Expr} {p q : Ex} {pos apos : Pos} {env : Env} {X : Cx} (he : X.env = env) (h0 : attributeBase o "get" X.env (eval o X.env) = eval o X.env) (hb : mE m sc p b = true) (hd : mE m sc q d = true) (hl : apos.endLine = pos.line) : M2 X o "get" apos b d pos := by
  have s1 := star_cons (es := [d]) (env := X.env) fun f p => mE_star hb (f := f) (p := p)
  have s2 := star_cons (es := []) (env := X.env) fun f p => mE_star hd (f := f) (p := p)
  refine ⟨h0, ?_, by rw [hl]; simp, ?_⟩
  · rw [s1, s2]; rfl
  · rw [s1, s2]; rfl
/-- PE and PT of a value that is no test form -/
theorem val_pt {e : Expr} {f : RE D} (h : PE X e (tE (pX X) X.K f)) (he : ∀ whole, isTrue e X.env whole = (do let v ← whole; standAt e.pos; holding [v] (truthy v))) : PE X e (tE (pX X) X.K f) ∧ PT X e (tT (pX X) X.K fun ρ => asB (f ρ)) := ⟨h, rt_val h he⟩
end
end PL


set_option Elab.async false
set_option linter.all false
set_option maxRecDepth 100000
/-! PLsa: places in what the def owns, read. -/
namespace PL
open PySem PySem.Spec PyProof.Rows L2
def tPth (p : PrW) (K : PySem.W.Frag) (f : En → Option Pl) : TE := fun σ H Q => ∃ ρ q t0 v0 F t, EnvOk p K H ρ σ ∧ f ρ = some q ∧ ρ.tree q.1 = some t0 ∧ σ[q.1]? = some (some v0) ∧ OwT p K H t0 v0 F ∧ t0.at_ q.2 = some t ∧ ∀ v H', Same H H' → Foc p K H' t0 v0 F q.2 t v → Q v H'
section
variable {X : Cx} {T : List D} {pos : Pos} {a b : Expr} {fp : En → Option Pl} {fk : RE D}
theorem tree_at {ρ : En} {i : Nat} {t : Od} (h : ρ.tree i = some t) : ρ[i]? = some (.tr t) := by
  unfold En.tree at h
  split at h
  · rename_i t' e
    cases h
    exact e
  · cases h
theorem EnvOk.tree {p : PrW} {K : PySem.W.Frag} {H : Hp} {ρ : En} {σ : L2.St} (E : EnvOk p K H ρ σ) {i : Nat} {t : Od} (h : ρ.tree i = some t) : ∃ v F, σ[i]? = some (some v) ∧ OwT p K H t v F := by
  obtain ⟨o, h1, v, F, h2, h3⟩ := E.at_ i _ (tree_at h)
  subst h2
  exact ⟨v, F, h1, h3⟩
theorem rq_v {i : Nat} {x : Str} (hN : X.N[i]? = some x) (hv : Vis X.env.scope x) (hd0 : (x == ("__debug__" : Str)) = false) (hcd : (x == ("__classdict__" : Str)) = false) : PE X (.Name x pos) (tPth (pX X) X.K fun ρ => (ρ.tree i).map fun _ => (i, [])) := by
  refine PEwk (pe_var hN hv hd0 hcd) fun σ H Q ⟨ρ, q, t0, v0, F, t, E, hf, h1, h2, h3, h4, k⟩ => ?_
  obtain ⟨t', e1, e2⟩ := mpd hf
  subst e2
  simp only [Od.at_, Option.some.injEq] at h4
  subst h4
  exact ⟨v0, h2, k v0 H (Same.refl H) (Foc.root h3)⟩
/-- a key's place among the entries -/
structure KPos (p : PrW) (K : PySem.W.Frag) (H : Hp) (a : Addr) (y : V) (j : Nat) (es : Array DictEntry) : Prop where
  ex : ∃ ks k q nks, Rd H a (rawO a es) ∧ KeyE p K H ks es.toList ∧ NdK ks ∧ Rp p K H k y ∧ kdOf [] k = some q ∧ KsOf ks nks ∧ nks[j]? = some q
def rIxP (X : Cx) : R2 := fun x y H Q => (∃ a vs z w, x = .ref a ∧ H a = some (.lst vs) ∧ y = .int z ∧ atI vs z = some w ∧ Q w H) ∨ ∃ a es j e w, x = .ref a ∧ KPos (pX X) X.K H a y j es ∧ es[j]? = some e ∧ RelV w e.val ∧ Q w H
theorem ixP (c : Ctx X) : IxR X (rIxP X) := by
  intro value slice pins s σ H x y v u Q I rx ry h hs
  have hu := c.hu
  rcases h with ⟨a, vs, z, w, ex, h1, ey, h2, q⟩ | ⟨a, es, j, e, w, ex, ⟨ks, k, qk, nks, h1, h2, h3, h4, h5, h6, h7⟩, h8, rw', q⟩
  · exact ix_list value slice pins s σ H x y v u Q I rx ry ⟨a, vs, z, w, ex, ey, SqL.of h1, h2, q⟩ hs
  · subst ex
    cases rx
    obtain ⟨z1, z2, z3⟩ := raw_at I h1
    exact tail_of z3.typeIs PySem.F.slot_dict_getitem.lookup (GD.item_raw (by omega) (rp_keyAt I h4 ry h5) z3 (h2.ents I h6) (h6.nodup h3) h7 h8 ⟨w, H, I.tok _, rw', q⟩) hs
theorem pos_dct {T : List D} {ks : List D} {nks : List NestedKey} {q : NestedKey} {j : Nat} (hk : KsOf ks nks) (h : (ks.findIdx? fun k => decide (kdOf T k = some q)) = some j) : nks[j]? = some q := by
  obtain ⟨hj, h1, _⟩ := List.findIdx?_eq_some_iff_getElem.mp h
  have h1 : kdOf [] ks[j] = some q := of_decide_eq_true h1
  obtain ⟨k', e1, e2⟩ := hk.at (List.getElem?_eq_getElem hj)
  rw [h1] at e2
  cases e2
  exact e1
theorem pos_none {T : List D} {ks : List D} {nks : List NestedKey} {q : NestedKey} (hk : KsOf ks nks) (h : (ks.findIdx? fun k => decide (kdOf T k = some q)) = none) : q ∉ nks := by
  intro hm
  obtain ⟨j, hj⟩ := List.mem_iff_getElem?.mp hm
  have hl : j < ks.length := by
    have := hk.len
    have := (List.getElem?_eq_some_iff.mp hj).1
    omega
  obtain ⟨k', e1, e2⟩ := hk.at (List.getElem?_eq_getElem hl)
  rw [hj] at e1
  cases e1
  have z := List.findIdx?_eq_none_iff.mp h ks[j] (List.getElem_mem hl)
  rw [decide_eq_false_iff_not] at z
  exact z e2
theorem ValE.at : ∀ {vs : List V} {l : List DictEntry} {j : Nat} {w : V}, ValE vs l → vs[j]? = some w → ∃ e, l[j]? = some e ∧ RelV w e.val
  | [], _, _, _, _, e => by simp at e
  | v :: r, _, 0, w, h, e => by
    obtain ⟨e0, l', e1, e2, e3⟩ := h
    simp at e
    subst e1 e
    exact ⟨e0, rfl, e2⟩
  | v :: r, _, j + 1, w, h, e => by
    obtain ⟨e0, l', e1, e2, e3⟩ := h
    subst e1
    obtain ⟨e4, h1, h2⟩ := ValE.at (j := j) e3 (by simpa using e)
    exact ⟨e4, by simpa using h1, h2⟩
theorem sub_eq {ρ : En} {q : Pl} {t0 t : Od} (h1 : ρ.tree q.1 = some t0) (h : ρ.sub q = some t) : t0.at_ q.2 = some t := by
  unfold En.sub at h
  rw [h1] at h
  exact h
theorem rq_ix (c : Ctx X) (ha : PE X a (tPth (pX X) X.K fp)) (hb : PE X b (tE (pX X) X.K fk)) (hs : PlainIx b) :
    PE X (.Subscript a b pos) (tPth (pX X) X.K fun ρ => (fp ρ).bind fun q => (ρ.sub q).bind fun t => (fk ρ).bind fun y => (t.pos T y).map fun j => (q.1, q.2 ++ [j])) := by
  refine PEwk (pe_ix (ixP c) ha hb hs) fun σ H Q ⟨ρ, q2, t0, v0, F, t, E, hf, h1, h2, h3, h4, k⟩ => ?_
  obtain ⟨q, e1, hf⟩ := bnd hf
  obtain ⟨t', e2, hf⟩ := bnd hf
  obtain ⟨y, e3, hf⟩ := bnd hf
  obtain ⟨j, e4, e5⟩ := mpd hf
  subst e5
  have h1 : ρ.tree q.1 = some t0 := h1
  have e2' := sub_eq h1 e2
  have hj : t'.kids[j]? = some t := by rw [← at_snoc t0 q.2 t' j e2']; exact h4
  refine ⟨ρ, q, t0, v0, F, t', E, e1, h1, h2, h3, e2', fun v H1 s1 foc => ⟨ρ, y, E.same s1, e3, fun u H2 s2 r2 => ?_⟩⟩
  obtain ⟨a', vs, w, ev, hw, hlen, foc2, kinds⟩ := (foc.same s2).step e2' hj
  have fin := k w H2 (s1.trans s2) foc2
  rcases kinds with ⟨xs, et, hl⟩ | ⟨ks, xs, es, et, hr, hk, hn, hv⟩ | ⟨c', ns, xs, C, dx, et, _⟩
  · subst et
    cases y <;> simp only [Od.pos] at e4 <;> try (cases e4; done)
    rename_i z
    refine .inl ⟨a', vs, z, w, ev, hl, rpInt.mp r2, ?_, fin⟩
    unfold atI
    rw [hlen]
    show (ixN xs.length z).bind _ = _
    rw [e4]
    exact hw
  · subst et
    simp only [Od.pos] at e4
    obtain ⟨qk, e5, e6⟩ := bnd e4
    obtain ⟨nks, hnk⟩ := hk.ks
    obtain ⟨en, he, re⟩ := hv.at hw
    exact .inr ⟨a', es, j, en, w, ev, ⟨ks, y, qk, nks, .inl hr, hk, hn, r2, e5, hnk, pos_dct (T := T) hnk e6⟩, arr_at he, re, fin⟩
  · subst et
    simp [Od.pos] at e4
theorem re_rd (ha : PE X a (tPth (pX X) X.K fp)) : PE X a (tE (pX X) X.K fun ρ => (fp ρ).bind fun q => (ρ.sub q).bind Od.toF) := by
  refine PEwk ha fun σ H Q ⟨ρ, r, E, hf, k⟩ => ?_
  obtain ⟨q, e1, hf⟩ := bnd hf
  obtain ⟨t, e2, e3⟩ := bnd hf
  cases t <;> simp only [Od.toF] at e3 <;> try (cases e3; done)
  cases e3
  have ht : ∃ t0, ρ.tree q.1 = some t0 := by
    unfold En.sub at e2
    cases h : ρ.tree q.1 with
    | none => rw [h] at e2; cases e2
    | some t0 => exact ⟨t0, rfl⟩
  obtain ⟨t0, h1⟩ := ht
  obtain ⟨v0, F, h2, h3⟩ := E.tree h1
  refine ⟨ρ, q, t0, v0, F, _, E, e1, h1, h2, h3, sub_eq h1 e2, fun v H' s foc => ?_⟩
  obtain ⟨A, F1, B, _, h5, _⟩ := foc.it
  simp only [OwT] at h5
  exact k v H' s h5.2
end
end PL


set_option Elab.async false
set_option linter.all false
set_option maxRecDepth 100000
/-! PLs: the match is sound, for expressions. -/
namespace PL
open PySem PySem.Spec PyProof.Rows L2
abbrev SE (X : Cx)  (e : Expr) (f : RE D) : Prop := PE X e (tE (pX X) X.K f) ∧ PT X e (tT (pX X) X.K fun ρ => asB (f ρ))
theorem ownS_snd (m : Mc) : ∀ own : List Nat, (ownS m own).map (·.2) = own
  | [] => rfl
  | i :: r => by
    show i :: (ownS m r).map (·.2) = i :: r
    rw [ownS_snd m r]
mutual
theorem sE (G : Gb) (m : Mc) : ∀ (x : Ex) (X : Cx) (sc : Scope), Ctx X → Sc X m sc → GOk X G m → ∀ e : Expr, mE m sc x e = true → SE X e (ev G x)
  | .v i, X, sc, c, S, g, e, h => by
    cases e <;> simp only [mE] at h <;> try (cases h; done)
    obtain ⟨n1, n2, n3, n4⟩ := S_vis S h
    exact val_pt (re_var n1 n2 n3 n4) (fun _ => rfl)
  | .non, X, sc, c, S, g, e, h => by
    cases e <;> simp only [mE] at h <;> try (cases h; done)
    rename_i k j pos
    cases k <;> simp only at h <;> try (cases h; done)
    exact val_pt (re_cV pe_non fun H => by simp only [Rp]) (fun _ => rfl)
  | .bl b, X, sc, c, S, g, e, h => by
    cases e <;> simp only [mE] at h <;> try (cases h; done)
    rename_i k j pos
    cases k <;> simp only at h <;> try (cases h; done)
    have e := of_decide_eq_true h
    subst e
    exact val_pt (re_cV pe_bl fun H => rpBool.mpr rfl) (fun _ => rfl)
  | .int z, X, sc, c, S, g, e, h => by
    cases e <;> simp only [mE] at h <;> try (cases h; done)
    rename_i k j pos
    cases k <;> simp only at h <;> try (cases h; done)
    have e := of_decide_eq_true h
    subst e
    exact val_pt (re_cV pe_int fun H => rpInt.mpr rfl) (fun _ => rfl)
  | .str z, X, sc, c, S, g, e, h => by
    cases e <;> simp only [mE] at h <;> try (cases h; done)
    rename_i k j pos
    cases k <;> simp only at h <;> try (cases h; done)
    have e := of_decide_eq_true h
    subst e
    exact val_pt (re_cV pe_str fun H => rpStr.mpr rfl) (fun _ => rfl)
  | .g x, X, sc, c, S, g, e, h => by
    cases e <;> simp only [mE] at h <;> try (cases h; done)
    rename_i y pos
    simp only [Bool.and_eq_true, decide_eq_true_eq] at h
    obtain ⟨h1, h2⟩ := h
    subst h1
    obtain ⟨n1, n2, n3⟩ := S_gl S h2
    cases hc : G.cst x with
    | some d =>
      obtain ⟨v, u, k1, k2, k3⟩ := g.cst x d hc
      have r := val_pt (re_cst (pos := pos) n1 k1 k2 k3 n2) (fun _ => rfl)
      have ef : ev G (.g x) = fun _ => some d := by funext ρ; simp only [ev, hc]
      rw [ef]
      exact r
    | none =>
      have ef : ev G (.g x) = fun _ => none := by funext ρ; simp only [ev, hc]
      rw [ef]
      exact ⟨⟨fun pins s σ H Q I ⟨_, _, _, z, _⟩ => by cases z⟩, ⟨fun pins s σ H Q I ⟨_, _, _, z, _⟩ => by cases z⟩⟩
  | .op o a b, X, sc, c, S, g, e, h => by
    cases e <;> simp only [mE] at h <;> try (cases h; done)
    simp only [Bool.and_eq_true, decide_eq_true_eq] at h
    obtain ⟨⟨h1, h2⟩, h3⟩ := h
    subst h1
    exact val_pt (re_op c (sE G m a X sc c S g _ h2).1 (sE G m b X sc c S g _ h3).1) (fun _ => rfl)
  | .neg a, X, sc, c, S, g, e, h => by
    cases e <;> simp only [mE] at h <;> try (cases h; done)
    rename_i op l pos
    cases op <;> simp only at h <;> try (cases h; done)
    exact val_pt (re_neg (sE G m a X sc c S g _ h).1) (fun _ => rfl)
  | .cmp o a b, X, sc, c, S, g, e, h => by
    cases e <;> simp only [mE] at h <;> try (cases h; done)
    split at h
    · rename_i q
      cases q
      simp only [Bool.and_eq_true, decide_eq_true_eq, Bool.not_eq_true'] at h
      obtain ⟨⟨⟨h1, h2⟩, h3⟩, h4⟩ := h
      subst h1
      exact ⟨re_cmp c (sE G m a X sc c S g _ h3).1 (sE G m b X sc c S g _ h4).1 h2, rt_cmp c (sE G m a X sc c S g _ h3).1 (sE G m b X sc c S g _ h4).1 h2⟩
    · cases h
  | .chain o o' a b d, X, sc, c, S, g, e, h => by
    cases e <;> simp only [mE] at h <;> try (cases h; done)
    split at h
    · rename_i q
      cases q
      simp only [Bool.and_eq_true, decide_eq_true_eq, Bool.not_eq_true'] at h
      obtain ⟨⟨⟨⟨⟨h1, h2⟩, h3⟩, h4⟩, h5⟩, h6⟩ := h
      subst h1 h2
      exact ⟨re_chain c (sE G m a X sc c S g _ h4).1 (sE G m b X sc c S g _ h5).1 (sE G m d X sc c S g _ h6).1 h3, rt_chain c (sE G m a X sc c S g _ h4).1 (sE G m b X sc c S g _ h5).1 (sE G m d X sc c S g _ h6).1 h3⟩
    · cases h
  | .chain3 o o' o'' a b d f, X, sc, c, S, g, e, h => by
    cases e <;> simp only [mE] at h <;> try (cases h; done)
    split at h
    · rename_i q
      cases q
      simp only [Bool.and_eq_true, decide_eq_true_eq, Bool.not_eq_true'] at h
      obtain ⟨⟨⟨⟨⟨⟨⟨h1, h2⟩, h0⟩, h3⟩, h4⟩, h5⟩, h6⟩, h7⟩ := h
      subst h1 h2 h0
      exact ⟨re_chain3 c (sE G m a X sc c S g _ h4).1 (sE G m b X sc c S g _ h5).1 (sE G m d X sc c S g _ h6).1 (sE G m f X sc c S g _ h7).1 h3, rt_chain3 c (sE G m a X sc c S g _ h4).1 (sE G m b X sc c S g _ h5).1 (sE G m d X sc c S g _ h6).1 (sE G m f X sc c S g _ h7).1 h3⟩
    · cases h
  | .lrng a, X, sc, c, S, g, e, h => by
    cases e <;> simp only [mE] at h <;> try (cases h; done)
    split at h
    · rename_i q
      cases q
      simp only [Bool.and_eq_true, decide_eq_true_eq] at h
      obtain ⟨⟨⟨⟨h1, h2⟩, h3⟩, h4⟩, h5⟩ := h
      subst h1 h2
      obtain ⟨n1, n2, n3, n4⟩ := S_fr S g h3
      obtain ⟨k1, k2, k3, k4⟩ := S_fr S g h4
      exact val_pt (re_lrng c n1 n2 k1 k2 (sE G m a X sc c S g _ h5).1 (star_cons fun f p => mE_star h5)) (fun _ => rfl)
    · cases h
  | .isN a, X, sc, c, S, g, e, h => by
    cases e <;> simp only [mE] at h <;> try (cases h; done)
    split at h
    · rename_i q
      cases q
      exact ⟨re_isN (sE G m a X sc c S g _ h).1, rt_isN (sE G m a X sc c S g _ h).1⟩
    · cases h
  | .notN a, X, sc, c, S, g, e, h => by
    cases e <;> simp only [mE] at h <;> try (cases h; done)
    split at h
    · rename_i q
      cases q
      exact ⟨re_notN (sE G m a X sc c S g _ h).1, rt_notN (sE G m a X sc c S g _ h).1⟩
    · cases h
  | .and_ a b, X, sc, c, S, g, e, h => by
    cases e <;> simp only [mE] at h <;> try (cases h; done)
    split at h
    · rename_i q
      cases q
      simp only [Bool.and_eq_true] at h
      have ia := sE G m a X sc c S g _ h.1
      have ib := sE G m b X sc c S g _ h.2
      exact ⟨re_and ia.1 (pe_one ib.1), rt_and ia.2 (pw_and1 ib.2).pt⟩
    · rename_i q
      cases q
      simp only [Bool.and_eq_true] at h
      have ia := sE G m a X sc c S g _ h.1
      have ib := sE G m b X sc c S g _ h.2
      exact ⟨re_and ia.1 ib.1, rt_and ia.2 ib.2⟩
    · cases h
  | .or_ a b, X, sc, c, S, g, e, h => by
    cases e <;> simp only [mE] at h <;> try (cases h; done)
    split at h
    · rename_i q
      cases q
      simp only [Bool.and_eq_true] at h
      have ia := sE G m a X sc c S g _ h.1
      have ib := sE G m b X sc c S g _ h.2
      exact ⟨re_or ia.1 (pe_one ib.1), rt_or ia.2 (pw_or1 ib.2).pt⟩
    · rename_i q
      cases q
      simp only [Bool.and_eq_true] at h
      have ia := sE G m a X sc c S g _ h.1
      have ib := sE G m b X sc c S g _ h.2
      exact ⟨re_or ia.1 ib.1, rt_or ia.2 ib.2⟩
    · cases h
  | .not_ a, X, sc, c, S, g, e, h => by
    cases e <;> simp only [mE] at h <;> try (cases h; done)
    rename_i op l pos
    cases op <;> simp only at h <;> try (cases h; done)
    have ia := sE G m a X sc c S g _ h
    exact ⟨re_not ia.1, rt_not ia.2⟩
  | .ite t a b, X, sc, c, S, g, e, h => by
    cases e <;> simp only [mE] at h <;> try (cases h; done)
    simp only [Bool.and_eq_true] at h
    have it := sE G m t X sc c S g _ h.1.1
    have ia := sE G m a X sc c S g _ h.1.2
    have ib := sE G m b X sc c S g _ h.2
    exact ⟨re_ite it.2 ia.1 ib.1, rt_ite it.2 ia.2 ib.2⟩
  | .call f as, X, sc, c, S, g, e, h => by
    cases e <;> simp only [mE] at h <;> try (cases h; done)
    split at h
    · rename_i x p es pos q
      cases q
      rename_i es pos e0
      simp only [Bool.and_eq_true, decide_eq_true_eq] at h
      obtain ⟨⟨h1, h2⟩, h3⟩ := h
      subst h1
      obtain ⟨n1, n2, n3⟩ := S_gl S h2
      refine val_pt ?_ (fun _ => rfl)
      cases hf : G.fns x with
      | none =>
        have ef : ev G (.call x as) = fun _ => none := by funext ρ; simp only [ev, hf]; rfl
        rw [ef]
        exact ⟨fun pins s σ H Q I ⟨_, _, _, z, _⟩ => by cases z⟩
      | some F =>
        obtain ⟨fa, fdt, ps, k, n, F1, F2, F3, F4, F5, F6⟩ := g.fns x F hf
        have ef : ev G (.call x as) = fun ρ => (evs G as ρ).bind F := by funext ρ; simp only [ev, hf]; rfl
        rw [ef]
        have ias := sEs G m as X sc c S g _ h3
        cases as with
        | nil =>
          simp only [mEs] at h3
          cases es with
          | cons _ _ => cases h3
          | nil =>
            cases hn : F [] with
            | none => exact ⟨fun pins s σ H Q I ⟨_, _, _, z, _⟩ => by simp [evs, hn] at z⟩
            | some r =>
              have e0 := F6 _ _ hn
              subst e0
              exact re_call0 F1 F2 n1 F3 F4 F5 n2
        | cons a as =>
          cases es with
          | nil => simp [mEs] at h3
          | cons l r =>
            have hm := h3
            simp only [mEs, Bool.and_eq_true] at hm
            have e1 := mEs_len h3
            by_cases hn : (l :: r).length = n
            · exact re_call F1 F2 n1 F3 F4 F5 ias hn (fun ρ ds hd => by rw [evs_len hd, e1]) n2 (star_cons fun f p => mE_star hm.1) (mEs_plain hm.2)
            · refine ⟨fun pins s σ H Q I ⟨_, r', _, z, _⟩ => ?_⟩
              obtain ⟨ds, z1, z2⟩ := bnd z
              exact absurd (by rw [← F6 _ _ z2, evs_len z1, e1]) hn
    · cases h
  | .bi f as, X, sc, c, S, g, e, h => by
    cases e <;> simp only [mE] at h <;> try (cases h; done)
    split at h
    · rename_i q
      cases q
      simp only [Bool.and_eq_true, Bool.or_eq_true, decide_eq_true_eq] at h
      obtain ⟨h1, h2⟩ := h
      refine val_pt ?_ (fun _ => rfl)
      have ias := sEs G m as X sc c S g _ h2
      have hpl : ∃ a as', as = .cons a as' := by
        cases as with
        | nil => simp [mEs] at h2
        | cons a as' => exact ⟨a, as', rfl⟩
      obtain ⟨a, as', ea⟩ := hpl
      have hm := h2
      rw [ea] at hm
      simp only [mEs, Bool.and_eq_true] at hm
      rcases h1 with ⟨k1, k2⟩ | ⟨⟨k1, k2⟩, k3⟩
      · obtain ⟨n1, n2, n3, n4⟩ := S_fr S g k2
        exact re_bi c n1 n2 (boot_bi k1) ias n4 n3 (star_cons fun f p => mE_star hm.1) (mEs_plain hm.2)
      · obtain ⟨n1, n2, n3⟩ := S_gl S k3
        have hid : ∃ id, biVal f = .builtin id := by cases f <;> first | exact ⟨_, rfl⟩ | cases k2
        obtain ⟨id, hid⟩ := hid
        exact re_bim c n1 hid (g.mt _ _ k1) ias n2 (star_cons fun f p => mE_star hm.1) (mEs_plain hm.2)
    · cases h
  | .isi a t, X, sc, c, S, g, e, h => by
    cases e <;> simp only [mE] at h <;> try (cases h; done)
    split at h
    · rename_i q
      cases q
      simp only [Bool.and_eq_true, decide_eq_true_eq] at h
      obtain ⟨⟨⟨⟨h1, h2⟩, h3⟩, h4⟩, h5⟩ := h
      subst h1
      obtain ⟨n1, n2, n3, n4⟩ := S_fr S g h2
      obtain ⟨k1, k2, k3, k4⟩ := S_fr S g h3
      exact val_pt (re_isi c n1 n2 k1 k2 (boot_ty h4) k4 k3 (sE G m a X sc c S g _ h5).1 (star_cons fun f p => mE_star h5)) (fun _ => rfl)
    · cases h
  | .tup as, X, sc, c, S, g, e, h => by
    cases e <;> simp only [mE] at h <;> try (cases h; done)
    simp only [Bool.and_eq_true, decide_eq_true_eq] at h
    exact val_pt (re_tup (sEs G m as X sc c S g _ h.2) h.1 fun ρ ds hd => by rw [evs_len hd, mEs_len h.2]) (fun _ => rfl)
  | .lst as, X, sc, c, S, g, e, h => by
    cases e <;> simp only [mE] at h <;> try (cases h; done)
    simp only [Bool.and_eq_true, decide_eq_true_eq] at h
    exact val_pt (re_lst (sEs G m as X sc c S g _ h.2) h.1 fun ρ ds hd => by rw [evs_len hd, mEs_len h.2]) (fun _ => rfl)
  | .ix a b, X, sc, c, S, g, e, h => by
    cases e <;> simp only [mE] at h <;> try (cases h; done)
    simp only [Bool.and_eq_true] at h
    exact val_pt (re_ix c (sE G m a X sc c S g _ h.1.2).1 (sE G m b X sc c S g _ h.2).1 (plain_ix h.1.1)) (fun _ => rfl)
  | .sl a lo hi, X, sc, c, S, g, e, h => by
    cases e <;> simp only [mE] at h <;> try (cases h; done)
    split at h
    · rename_i q
      cases q
      simp only [Bool.and_eq_true] at h
      exact val_pt (re_sl c (sE G m a X sc c S g _ h.1.1).1 (sO G m lo X sc c S g _ h.1.2) (sO G m hi X sc c S g _ h.2)) (fun _ => rfl)
    · cases h
  | .rev a, X, sc, c, S, g, e, h => by
    cases e <;> simp only [mE] at h <;> try (cases h; done)
    split at h
    · rename_i q
      cases q
      simp only [Bool.and_eq_true, decide_eq_true_eq] at h
      obtain ⟨h1, h2⟩ := h
      subst h1
      exact val_pt (re_revL c (sE G m a X sc c S g _ h2).1) (fun _ => rfl)
    · cases h
  | .lc own elt p it cond, X, sc, c, S, g, e, h => by
    cases e <;> simp only [mE] at h <;> try (cases h; done)
    split at h
    · rename_i q
      cases q
      rename_i pos0 e0 tg0 iter0 ifs0 ia0
      simp only [Bool.and_eq_true, decide_eq_true_eq] at h
      obtain ⟨⟨⟨⟨⟨⟨⟨h1, h2⟩, h3⟩, h4⟩, h5⟩, h6⟩, h7⟩, h8⟩ := h
      subst h1
      have eo : (ownS m own).map (·.2) = own := ownS_snd m own
      have r := re_lc (pos := pos0) (elt := _) c (sI G m it X sc c S g _ _ h5 (by simpa using h4)) (blk_ok S h2) (P := p) (fun j hj => by rw [eo]; simpa using List.all_eq_true.mp h3 j hj)
        (fun s H b cl fp => sPz (blk_ctx c s H b cl fp) (blk_sc S s H b cl fp) h4 h6) (fun s H b cl fp => sC G m cond _ _ (blk_ctx c s H b cl fp) (blk_sc S s H b cl fp) (blk_gok g s H b cl fp) _ h7)
        (fun s H b cl fp => (sE G m elt _ _ (blk_ctx c s H b cl fp) (blk_sc S s H b cl fp) (blk_gok g s H b cl fp) _ h8).1) (fold_of h5)
      rw [eo] at r
      exact val_pt r (fun _ => rfl)
    · cases h
  | .dc own k v p it cond, X, sc, c, S, g, e, h => by
    cases e <;> simp only [mE] at h <;> try (cases h; done)
    split at h
    · rename_i q
      cases q
      rename_i pos0 e0 tg0 iter0 ifs0 ia0
      simp only [Bool.and_eq_true, decide_eq_true_eq] at h
      obtain ⟨⟨⟨⟨⟨⟨⟨⟨h1, h2⟩, h3⟩, h4⟩, h5⟩, h6⟩, h7⟩, h8⟩, h9⟩ := h
      subst h1
      have eo : (ownS m own).map (·.2) = own := ownS_snd m own
      have r := re_dc (T := G.tups) (pos := pos0) c (sI G m it X sc c S g _ _ h5 (by simpa using h4)) (blk_ok S h2) (P := p) (fun j hj => by rw [eo]; simpa using List.all_eq_true.mp h3 j hj)
        (fun s H b cl fp => sPz (blk_ctx c s H b cl fp) (blk_sc S s H b cl fp) h4 h6) (fun s H b cl fp => sC G m cond _ _ (blk_ctx c s H b cl fp) (blk_sc S s H b cl fp) (blk_gok g s H b cl fp) _ h7)
        (fun s H b cl fp => (sE G m k _ _ (blk_ctx c s H b cl fp) (blk_sc S s H b cl fp) (blk_gok g s H b cl fp) _ h8).1) (fun s H b cl fp => (sE G m v _ _ (blk_ctx c s H b cl fp) (blk_sc S s H b cl fp) (blk_gok g s H b cl fp) _ h9).1) (fun s H b cl fp => blk_ctx c s H b cl fp) (fold_of h5)
      rw [eo] at r
      exact val_pt r (fun _ => rfl)
    · cases h
  | .get a k d, X, sc, c, S, g, e, h => by
    cases e <;> simp only [mE] at h <;> try (cases h; done)
    split at h
    · rename_i q
      cases q
      simp only [Bool.and_eq_true, decide_eq_true_eq] at h
      obtain ⟨⟨⟨⟨⟨h1, h2⟩, h3⟩, h4⟩, h5⟩, h6⟩ := h
      subst h1
      exact val_pt (re_get c (sE G m a X sc c S g _ h4).1 (sE G m k X sc c S g _ h5).1 (sE G m d X sc c S g _ h6).1 (m2_of rfl (base_of h3) h5 h6 h2)) (fun _ => rfl)
    · cases h
  | .lvals a, X, sc, c, S, g, e, h => by
    cases e <;> simp only [mE] at h <;> try (cases h; done)
    split at h
    · rename_i q
      cases q
      simp only [Bool.and_eq_true, decide_eq_true_eq] at h
      obtain ⟨⟨⟨⟨⟨h1, h2⟩, h3⟩, h4⟩, h5⟩, h6⟩ := h
      subst h1 h3
      obtain ⟨n1, n2, n3, n4⟩ := S_fr S g h2
      exact val_pt (re_lvals c (sE G m a X sc c S g _ h6).1 n1 n2 (base_of h5) (by rw [h4]; simp) rfl) (fun _ => rfl)
    · cases h
  | .oget i k d, X, sc, c, S, g, e, h => by
    cases e <;> simp only [mE] at h <;> try (cases h; done)
    split at h
    · rename_i q
      cases q
      simp only [Bool.and_eq_true, decide_eq_true_eq] at h
      obtain ⟨⟨⟨⟨h1, h2⟩, h3⟩, h5⟩, h6⟩ := h
      subst h1
      obtain ⟨n1, n2, n3, n4⟩ := S_vis S h3
      exact val_pt (re_oget c n1 n2 n3 n4 (sE G m k X sc c S g _ h5).1 (sE G m d X sc c S g _ h6).1 (m2_of rfl rfl h5 h6 h2)) (fun _ => rfl)
    · cases h
  | .oix i k, X, sc, c, S, g, e, h => by
    cases e <;> simp only [mE] at h <;> try (cases h; done)
    split at h
    · rename_i q
      cases q
      simp only [Bool.and_eq_true] at h
      obtain ⟨n1, n2, n3, n4⟩ := S_vis S h.1.2
      exact val_pt (re_oix c n1 n2 n3 n4 (sE G m k X sc c S g _ h.2).1 (plain_ix h.1.1)) (fun _ => rfl)
    · cases h
  | .oin _ _ _, X, sc, c, S, g, e, h => by simp [mE] at h
  | .pget _ _ _, X, sc, c, S, g, e, h => by simp [mE] at h
  | .pin _ _ _, X, sc, c, S, g, e, h => by simp [mE] at h
  | .plen _, X, sc, c, S, g, e, h => by simp [mE] at h
  | .rd p, X, sc, c, S, g, e, h => by
    simp only [mE, Bool.and_eq_true, Bool.not_eq_true'] at h
    obtain ⟨hr, h⟩ := h
    have hp := sPth G m p X sc c S g e h
    have hform : ∀ whole, isTrue e X.env whole = (do let v ← whole; standAt e.pos; holding [v] (truthy v)) := by
      cases p with
      | v i => cases hr
      | ix p k =>
        simp only [mPth] at h
        cases e <;> first | (intro _; rfl) | (simp at h; done)
      | fld p f => simp [mPth] at h
    exact val_pt (re_rd hp) hform
  | .olen i, X, sc, c, S, g, e, h => by
    cases e <;> simp only [mE] at h <;> try (cases h; done)
    split at h
    · rename_i q
      cases q
      simp only [Bool.and_eq_true, decide_eq_true_eq] at h
      obtain ⟨⟨h1, h2⟩, h3⟩ := h
      subst h1
      obtain ⟨n1, n2, n3, n4⟩ := S_fr S g h2
      obtain ⟨k1, k2, k3, k4⟩ := S_vis S h3
      exact val_pt (re_olen c n1 n2 k1 k2 k3 k4) (fun _ => rfl)
    · cases h
theorem sPth (G : Gb) (m : Mc) : ∀ (p : Pth) (X : Cx) (sc : Scope), Ctx X → Sc X m sc → GOk X G m → ∀ e : Expr, mPth m sc p e = true → PE X e (tPth (pX X) X.K (evP G p))
  | .v i, X, sc, c, S, g, e, h => by
    cases e <;> simp only [mPth] at h <;> try (cases h; done)
    obtain ⟨n1, n2, n3, n4⟩ := S_vis S h
    exact rq_v n1 n2 n3 n4
  | .ix p k, X, sc, c, S, g, e, h => by
    cases e <;> simp only [mPth] at h <;> try (cases h; done)
    simp only [Bool.and_eq_true] at h
    exact rq_ix (T := G.tups) c (sPth G m p X sc c S g _ h.1.2) (sE G m k X sc c S g _ h.2).1 (plain_ix h.1.1)
  | .fld p f, X, sc, c, S, g, e, h => by simp [mPth] at h
theorem sEs (G : Gb) (m : Mc) : ∀ (as : Exs) (X : Cx) (sc : Scope), Ctx X → Sc X m sc → GOk X G m → ∀ es : List Expr, mEs m sc as es = true → PA X es (tA (pX X) X.K (evs G as))
  | .nil, X, sc, c, S, g, es, h => by
    cases es with
    | nil => exact ra_nil
    | cons _ _ => simp [mEs] at h
  | .cons a as, X, sc, c, S, g, es, h => by
    cases es with
    | nil => simp [mEs] at h
    | cons e r =>
      simp only [mEs, Bool.and_eq_true] at h
      exact ra_cons (sE G m a X sc c S g e h.1).1 (sEs G m as X sc c S g r h.2) (star_cons fun f p => mE_star h.1)
theorem sO (G : Gb) (m : Mc) : ∀ (o : Ox) (X : Cx) (sc : Scope), Ctx X → Sc X m sc → GOk X G m → ∀ e : Option Expr, mO m sc o e = true → PO X e (tO (pX X) X.K (evO G o))
  | .non, X, sc, c, S, g, e, h => by
    cases e with
    | none => exact ro_none
    | some _ => simp [mO] at h
  | .some a, X, sc, c, S, g, e, h => by
    cases e with
    | none => simp [mO] at h
    | some l =>
      simp only [mO] at h
      exact ro_some (sE G m a X sc c S g l h).1
theorem sC (G : Gb) (m : Mc) : ∀ (o : Ox) (X : Cx) (sc : Scope), Ctx X → Sc X m sc → GOk X G m → ∀ es : List Expr, mC m sc o es = true → PTs X es (tT (pX X) X.K (evC G o))
  | .non, X, sc, c, S, g, es, h => by
    cases es with
    | nil => exact ⟨fun pins s σ H Q I ⟨ρ, b, E, hf, q⟩ => by
        cases hf
        exact pts_nil.run pins s σ H Q I (q H (Same.refl H))⟩
    | cons _ _ => simp [mC] at h
  | .some a, X, sc, c, S, g, es, h => by
    cases es with
    | nil => simp [mC] at h
    | cons e r =>
      cases r with
      | cons _ _ => simp [mC] at h
      | nil =>
        simp only [mC] at h
        exact pts_one (sE G m a X sc c S g e h).2
theorem sI (G : Gb) (m : Mc) : ∀ (it : Iu) (X : Cx) (sc : Scope), Ctx X → Sc X m sc → GOk X G m → ∀ (e tg : Expr), mI m sc it e = true → (it.pairs = false ∨ isTup tg = true) → PI X tg e (tI (pX X) X.K (evI G it) it.pairs)
  | .seq a, X, sc, c, S, g, e, tg, h, hy => by
    simp only [mI] at h
    exact ri_seq c (sE G m a X sc c S g e h).1
  | .rng1 a, X, sc, c, S, g, e, tg, h, hy => by
    cases e <;> simp only [mI] at h <;> try (cases h; done)
    split at h
    · rename_i q
      cases q
      simp only [Bool.and_eq_true, decide_eq_true_eq] at h
      obtain ⟨⟨h1, h2⟩, h3⟩ := h
      subst h1
      obtain ⟨n1, n2, n3, n4⟩ := S_fr S g h2
      exact ri_rng1 n1 n2 (sE G m a X sc c S g _ h3).1 (star_cons fun f p => mE_star h3)
    · cases h
  | .rng2 a b, X, sc, c, S, g, e, tg, h, hy => by
    cases e <;> simp only [mI] at h <;> try (cases h; done)
    split at h
    · rename_i q
      cases q
      simp only [Bool.and_eq_true, decide_eq_true_eq] at h
      obtain ⟨⟨⟨h1, h2⟩, h3⟩, h4⟩ := h
      subst h1
      obtain ⟨n1, n2, n3, n4⟩ := S_fr S g h2
      exact ri_rng2 n1 n2 (sE G m a X sc c S g _ h3).1 (sE G m b X sc c S g _ h4).1 (star_cons fun f p => mE_star h3) (star_cons fun f p => mE_star h4)
    · cases h
  | .rng3 a b d, X, sc, c, S, g, e, tg, h, hy => by
    cases e <;> simp only [mI] at h <;> try (cases h; done)
    split at h
    · rename_i q
      cases q
      simp only [Bool.and_eq_true, decide_eq_true_eq] at h
      obtain ⟨⟨⟨⟨h1, h2⟩, h3⟩, h4⟩, h5⟩ := h
      subst h1
      obtain ⟨n1, n2, n3, n4⟩ := S_fr S g h2
      have s3 := star_cons (es := []) (env := X.env) fun f p => mE_star h5 (f := f) (p := p)
      have s2 : ∀ es, starEach (_ :: es) X.env = _ := fun es => star_cons (es := es) (env := X.env) fun f p => mE_star h4 (f := f) (p := p)
      exact ri_rng3 n1 n2 (sE G m a X sc c S g _ h3).1 (sE G m b X sc c S g _ h4).1 (sE G m d X sc c S g _ h5).1 (star_cons fun f p => mE_star h3) (s2 _) s3 (by rw [s2, s3]; rfl)
    · cases h
  | .enum a, X, sc, c, S, g, e, tg, h, hy => by
    cases e <;> simp only [mI] at h <;> try (cases h; done)
    split at h
    · rename_i q
      cases q
      simp only [Bool.and_eq_true, decide_eq_true_eq] at h
      obtain ⟨⟨h1, h2⟩, h3⟩ := h
      subst h1
      obtain ⟨n1, n2, n3, n4⟩ := S_fr S g h2
      have ht := hy.resolve_left (by simp [Iu.pairs])
      cases tg <;> first | (cases ht; done) | exact ri_enum c n1 n2 (sE G m a X sc c S g _ h3).1 (star_cons fun f p => mE_star h3)
    · cases h
  | .zip _ _, X, sc, c, S, g, e, tg, h, hy => by simp [mI] at h
  | .vals a, X, sc, c, S, g, e, tg, h, hy => by
    cases e <;> simp only [mI] at h <;> try (cases h; done)
    split at h
    · rename_i q
      cases q
      simp only [Bool.and_eq_true, decide_eq_true_eq] at h
      obtain ⟨⟨⟨h1, h2⟩, h3⟩, h4⟩ := h
      subst h1
      exact ri_vals (sE G m a X sc c S g _ h4).1 (base_of h3) (by rw [h2]; simp)
    · cases h
  | .items a, X, sc, c, S, g, e, tg, h, hy => by
    cases e <;> simp only [mI] at h <;> try (cases h; done)
    split at h
    · rename_i q
      cases q
      simp only [Bool.and_eq_true, decide_eq_true_eq] at h
      obtain ⟨⟨⟨h1, h2⟩, h3⟩, h4⟩ := h
      subst h1
      have ht := hy.resolve_left (by simp [Iu.pairs])
      cases tg <;> first | (cases ht; done) | exact ri_items (sE G m a X sc c S g _ h4).1 (base_of h3) (by rw [h2]; simp)
    · cases h
end
end PL


set_option Elab.async false
set_option linter.all false
set_option maxRecDepth 100000
/-! PLt: statements, each construct with the readings of its parts. -/
namespace PL
open PySem PySem.Spec PyProof.Rows L2
/-- where a def began: the heap, and what it may change of it -/
structure Bg where
  h : Hp
  b : List Addr
/-- what stood at the beginning stands, but what may be changed -/
structure Stay (S : Bg) (H : Hp) : Prop where
  kp : Kp S.h H
  st : ∀ a o, a ∉ S.b → S.h a = some o → H a = some o
theorem Stay.up {S : Bg} {H H' : Hp} (x : Stay S H) (s : Same H H') : Stay S H' := ⟨x.kp.trans s.kp, fun a o n e => s a o (x.st a o n e)⟩
theorem Stay.all {H H' : Hp} (x : Stay ⟨H, []⟩ H') : Same H H' := fun a o e => x.st a o (by simp) e
theorem Stay.refl (H : Hp) (b : List Addr) : Stay ⟨H, b⟩ H := ⟨Kp.refl H, fun _ _ _ e => e⟩
/-- the things of the slots: each slot's own, apart -/
structure Fps (p : PrW) (K : PySem.W.Frag) (S : Bg) (H : Hp) (ρ : En) (σ : L2.St) (fp : Nat → List Addr) : Prop where
  is : ∀ i s v, ρ[i]? = some s → s.own = true → σ[i]? = some (some v) → SlT p K H s v (fp i)
  new : ∀ i s, ρ[i]? = some s → s.own = true → (fp i).Nodup ∧ ∀ a ∈ fp i, S.h a = none ∨ a ∈ S.b
  apart : ∀ i j s s', i ≠ j → ρ[i]? = some s → ρ[j]? = some s' → s.own = true → s'.own = true → ∀ a ∈ fp i, a ∉ fp j
/-- a def's frame: its own lists, dicts, objects are new since its beginning (or given to it), and apart -/
structure Fr (p : PrW) (K : PySem.W.Frag) (S : Bg) (H : Hp) (ρ : En) (σ : L2.St) : Prop where
  env : EnvOk p K H ρ σ
  stay : Stay S H
  fp : ∃ fp, Fps p K S H ρ σ fp
theorem Fps.up {p : PrW} {K : PySem.W.Frag} {S : Bg} {H H' : Hp} {ρ : En} {σ : L2.St} {fp : Nat → List Addr} (F : Fps p K S H ρ σ fp) (s : Same H H') : Fps p K S H' ρ σ fp :=
  ⟨fun i sl v e o ev => (F.is i sl v e o ev).frame s.kp fun b _ ob eb => s b ob eb, F.new, F.apart⟩
theorem Fr.up {p : PrW} {K : PySem.W.Frag} {S : Bg} {H H' : Hp} {ρ : En} {σ : L2.St} (F : Fr p K S H ρ σ) (s : Same H H') : Fr p K S H' ρ σ :=
  ⟨F.env.same s, F.stay.up s, let ⟨fp, h⟩ := F.fp; ⟨fp, h.up s⟩⟩
theorem Fr.sub {p : PrW} {K : PySem.W.Frag} {S : Bg} {H : Hp} {ρ ρ' : En} {σ σ' : L2.St} (F : Fr p K S H ρ σ) (E : EnvOk p K H ρ' σ') (o : OwSub ρ ρ' σ σ') : Fr p K S H ρ' σ' := by
  obtain ⟨fp, h⟩ := F.fp
  exact ⟨E, F.stay, fp, fun i s v e os ev => h.is i s v (o i s e os).1 os ((o i s e os).2 ▸ ev), fun i s e os => h.new i s (o i s e os).1 os, fun i j s s' n e e' os os' => h.apart i j s s' n (o i s e os).1 (o j s' e' os').1 os os'⟩
/-- what an owned slot holds is some value -/
theorem own_val {p : PrW} {K : PySem.W.Frag} {H : Hp} {ρ : En} {σ : L2.St} (E : EnvOk p K H ρ σ) {i : Nat} {s : Sl} (e : ρ[i]? = some s) (o : s.own = true) : ∃ v, σ[i]? = some (some v) := by
  obtain ⟨ov, h1, h2⟩ := E.at_ i s e
  cases s with
  | un => cases o
  | fz d => cases o
  | ow d =>
    obtain ⟨a, h3, _⟩ := h2
    exact ⟨.ref a, by rw [h1, h3]⟩
  | tr t =>
    obtain ⟨v, F, h3, _⟩ := h2
    exact ⟨v, by rw [h1, h3]⟩
/-- a slot's things may change, and its content; all else stays -/
theorem Fr.chg3 {p : PrW} {K : PySem.W.Frag} {S : Bg} {H H' : Hp} {ρ : En} {σ : L2.St} {fp : Nat → List Addr} (F : Fr p K S H ρ σ) (h : Fps p K S H ρ σ fp) {i : Nat} {s s' : Sl} {v : V} {G : List Addr} (e : ρ[i]? = some s) (os : s.own = true) (ev : σ[i]? = some (some v)) (k : Kp H H')
    (off : ∀ b, b ∉ fp i → ∀ o, H b = some o → H' b = some o) (ok : SlOk p K H' s' (some v)) (t : s'.own = true → SlT p K H' s' v G ∧ G.Nodup ∧ ∀ a ∈ G, a ∈ fp i ∨ H a = none) : EnvOk p K H' (ρ.set i s') σ ∧ Stay S H' ∧ Fps p K S H' (ρ.set i s') σ (fun j => if j = i then G else fp j) := by
  have nw := (h.new i s e os).2
  have hl : i < ρ.length := (List.getElem?_eq_some_iff.mp e).1
  refine ⟨⟨by rw [List.length_set]; exact F.env.len, fun j sl ej => ?_⟩, ⟨F.stay.kp.trans k, fun a o n ea => off a (fun ha => ?_) o (F.stay.st a o n ea)⟩, fun j sl w ej oj wj => ?_, fun j sl ej oj => ?_, fun j j' sl sl' n ej ej' oj oj' a ha => ?_⟩
  · by_cases hj : i = j
    · subst hj
      rw [List.getElem?_set_self hl] at ej
      cases ej
      exact ⟨_, ev, ok⟩
    · rw [List.getElem?_set_ne hj] at ej
      obtain ⟨o, g1, g2⟩ := F.env.at_ j sl ej
      refine ⟨o, g1, ?_⟩
      cases ho : sl.own with
      | true =>
        obtain ⟨w, hw⟩ := own_val F.env ej ho
        rw [g1] at hw
        cases hw
        refine ((h.is j sl w ej ho g1).frame k fun b hb o eb => off b (fun hb' => h.apart j i sl s (Ne.symm hj) ej e ho os b hb hb') o eb).ok
      | false =>
        cases sl with
        | un => trivial
        | fz d =>
          obtain ⟨w, g3, g4⟩ := g2
          exact ⟨w, g3, Rp.keep k _ _ g4⟩
        | ow d => cases ho
        | tr t => cases ho
  · rcases nw a ha with z | z
    · rw [ea] at z; cases z
    · exact n z
  · by_cases hj : j = i
    · subst hj
      rw [List.getElem?_set_self hl] at ej
      cases ej
      rw [ev] at wj
      cases wj
      simp only [if_true]
      exact (t oj).1
    · rw [List.getElem?_set_ne (Ne.symm hj)] at ej
      simp only [if_neg hj]
      exact (h.is j sl w ej oj wj).frame k fun b hb o eb => off b (fun hb' => h.apart j i sl s hj ej e oj os b hb hb') o eb
  · by_cases hj : j = i
    · subst hj
      rw [List.getElem?_set_self hl] at ej
      cases ej
      simp only [if_true]
      refine ⟨(t oj).2.1, fun a ha => ?_⟩
      rcases (t oj).2.2 a ha with z | z
      · exact nw a z
      · by_cases hb : a ∈ S.b
        · exact .inr hb
        · refine .inl ?_
          cases q : S.h a with
          | none => rfl
          | some o => rw [F.stay.st a o hb q] at z; cases z
    · rw [List.getElem?_set_ne (Ne.symm hj)] at ej
      simp only [if_neg hj]
      exact h.new j sl ej oj
  · have key : ∀ {j j' : Nat} {sl' : Sl}, j = i → j' ≠ i → ρ[j']? = some sl' → sl'.own = true → s'.own = true → a ∈ G → a ∉ fp j' := by
      intro j j' sl' hj hj' ej' oj' o' ha hb
      rcases (t o').2.2 a ha with z | z
      · exact h.apart i j' s sl' (Ne.symm hj') e ej' os oj' a z hb
      · obtain ⟨w, hw⟩ := own_val F.env ej' oj'
        have m := (h.is j' sl' w ej' oj' hw).mut a hb
        rw [z] at m
        exact m
    by_cases hj : j = i <;> by_cases hj' : j' = i
    · exact absurd (hj.trans hj'.symm) n
    · subst hj
      rw [List.getElem?_set_self hl] at ej
      cases ej
      rw [List.getElem?_set_ne (Ne.symm hj')] at ej'
      simp only [if_true] at ha
      simp only [if_neg hj']
      exact key rfl hj' ej' oj' oj ha
    · subst hj'
      rw [List.getElem?_set_self hl] at ej'
      cases ej'
      rw [List.getElem?_set_ne (Ne.symm hj)] at ej
      simp only [if_neg hj] at ha
      simp only [if_true]
      exact fun hb => key rfl hj ej oj oj' hb ha
    · rw [List.getElem?_set_ne (Ne.symm hj)] at ej
      rw [List.getElem?_set_ne (Ne.symm hj')] at ej'
      simp only [if_neg hj] at ha
      simp only [if_neg hj']
      exact h.apart j j' sl sl' n ej ej' oj oj' a ha
theorem Fr.chg {p : PrW} {K : PySem.W.Frag} {S : Bg} {H H' : Hp} {ρ : En} {σ : L2.St} {fp : Nat → List Addr} (F : Fr p K S H ρ σ) (h : Fps p K S H ρ σ fp) {i : Nat} {s s' : Sl} {v : V} {G : List Addr} (e : ρ[i]? = some s) (os : s.own = true) (ev : σ[i]? = some (some v)) (k : Kp H H')
    (off : ∀ b, b ∉ fp i → ∀ o, H b = some o → H' b = some o) (ok : SlOk p K H' s' (some v)) (t : s'.own = true → SlT p K H' s' v G ∧ G.Nodup ∧ ∀ a ∈ G, a ∈ fp i ∨ H a = none) : Fr p K S H' (ρ.set i s') σ :=
  let ⟨x, y, z⟩ := F.chg3 h e os ev k off ok t
  ⟨x, y, _, z⟩
/-- what is to hold behind an outcome -/
def After (p : PrW) (K : PySem.W.Frag) (H0 : Bg) (H : Hp) (E : Ends) : Out → Prop
  | .nx ρ' => ∀ σ' H', Kp H H' → Fr p K H0 H' ρ' σ' → E.nx σ' H'
  | .rt d => ∀ v H', Kp H H' → Stay H0 H' → Rp p K H' d v → E.rt v H'
  | .bk ρ' => ∀ σ' H', Kp H H' → Fr p K H0 H' ρ' σ' → E.bk σ' H'
  | .ct ρ' => ∀ σ' H', Kp H H' → Fr p K H0 H' ρ' σ' → E.ct σ' H'
theorem After.mono {p : PrW} {K : PySem.W.Frag} {H0 : Bg} {H H1 : Hp} {E : Ends} {o : Out} (h : After p K H0 H E o) (k : Kp H H1) : After p K H0 H1 E o := by
  cases o with
  | nx ρ => exact fun σ' H' k' F => h σ' H' (k.trans k') F
  | rt d => exact fun v H' k' s r => h v H' (k.trans k') s r
  | bk ρ => exact fun σ' H' k' F => h σ' H' (k.trans k') F
  | ct ρ => exact fun σ' H' k' F => h σ' H' (k.trans k') F
def tS (p : PrW) (K : PySem.W.Frag) (H0 : Bg) (f : En → Option Out) : TS := fun E σ H => ∃ ρ o, Fr p K H0 H ρ σ ∧ f ρ = some o ∧ After p K H0 H E o
/-- behind a statement its new list or dict is frozen -/
theorem SPseal {X : Cx} {pins : List (Addr × Obj)} {E : Ends} {f : Flow} {s : Shared} (h : SP X pins { E with nx := fun σ' H' => ∃ p o, H' p = some o ∧ Mut (some o) ∧ ∀ od, E.nx σ' (upd H' p (.frz od o)) } f s) : SP X pins E f s := by
  cases f with
  | next =>
    obtain ⟨σ', H', I, p, o, h1, h2, h3⟩ := h
    obtain ⟨od, I2⟩ := I.lock h1 h2
    exact ⟨σ', _, I2, h3 od⟩
  | brk => exact h
  | cont => exact h
  | ret u => exact h
section
variable {X : Cx} {H0 : Bg} {pos : Pos} {e : Expr} {fa : RE D}
theorem rs_asg {tg : Expr} {P : Pat} (he : PE X e (tE (pX X) X.K fa)) (hg : PG X tg (tP (pX X) X.K P)) (hs : swapsWithSole [tg] e pos.line X.env = pure false) (hw : swappedStores [tg] e X.env = pure none) (h1 : (assignEach [tg] X.env).map (·.2) = [assign tg X.env]) :
    PS X (.Assign [tg] e pos) (tS (pX X) X.K H0 fun ρ => (fa ρ).bind fun d => (bindP P d ρ).map Out.nx) := by
  refine PSwk (ps_asg he hg hs hw h1) fun E σ H ⟨ρ, o, F, hf, q⟩ => ?_
  obtain ⟨d, e1, hf⟩ := bnd hf
  obtain ⟨ρ', e2, e3⟩ := mpd hf
  subst e3
  exact ⟨ρ, d, F.env, e1, fun v H1 s1 r1 => ⟨ρ, d, ρ', F.env.same s1, r1, e2, fun σ' E' ow _ => q σ' H1 s1.kp ((F.up s1).sub E' ow)⟩⟩
/-- a slot's new content -/
def NewS (p : PrW) (K : PySem.W.Frag) (H H' : Hp) (v : V) : Sl → Prop
  | .fz d => Rp p K H' d v
  | .ow d => ∃ a, v = .ref a ∧ H a = none ∧ Ow p K H' d a
  | .tr t => ∃ F, OwT p K H' t v F ∧ F.Nodup ∧ ∀ a ∈ F, H a = none
  | .un => False
def tR (p : PrW) (K : PySem.W.Frag) (f : En → Option Sl) : TE := fun σ H Q => ∃ ρ s, EnvOk p K H ρ σ ∧ f ρ = some s ∧ ∀ v H', Same H H' → NewS p K H H' v s → Q v H'
theorem NewS.up {p : PrW} {K : PySem.W.Frag} {H H1 H2 : Hp} {v : V} {s : Sl} (h : NewS p K H H1 v s) (k : Same H1 H2) : NewS p K H H2 v s := by
  cases s with
  | fz d => exact Rp.keep k.kp _ _ h
  | ow d =>
    obtain ⟨a, e, n, o⟩ := h
    exact ⟨a, e, n, o.same k⟩
  | tr t =>
    obtain ⟨F, h1, h2, h3⟩ := h
    exact ⟨F, h1.same k, h2, h3⟩
  | un => exact h
theorem NewS.ok {p : PrW} {K : PySem.W.Frag} {H H1 : Hp} {v : V} {s : Sl} (h : NewS p K H H1 v s) : SlOk p K H1 s (some v) := by
  cases s with
  | fz d => exact ⟨v, rfl, h⟩
  | ow d =>
    obtain ⟨a, e, n, o⟩ := h
    subst e
    exact ⟨a, rfl, o⟩
  | tr t =>
    obtain ⟨F, h1, _⟩ := h
    exact ⟨v, F, rfl, h1⟩
  | un => exact h.elim
theorem NewS.fp {p : PrW} {K : PySem.W.Frag} {H H1 : Hp} {v : V} {s : Sl} (h : NewS p K H H1 v s) (o : s.own = true) : ∃ G, SlT p K H1 s v G ∧ G.Nodup ∧ ∀ a ∈ G, H a = none := by
  cases s with
  | fz d => cases o
  | ow d =>
    obtain ⟨a, e, n, o⟩ := h
    exact ⟨[a], ⟨a, e, rfl, o⟩, by simp, fun b hb => by rw [List.mem_singleton.mp hb]; exact n⟩
  | tr t => exact h
  | un => exact h.elim
/-- a slot takes a new value, made since H; the frame stood at H -/
theorem Fr.put {p : PrW} {K : PySem.W.Frag} {S : Bg} {H H' : Hp} {ρ : En} {σ : L2.St} {i : Nat} {s : Sl} {v : V} (F0 : Fr p K S H ρ σ) (sm : Same H H') (n : NewS p K H H' v s) : Fr p K S H' (ρ.set i s) (σ.set i (some v)) := by
  obtain ⟨fp, h0⟩ := F0.fp
  have F := F0.up sm
  have k0 := F0.stay
  have h := h0.up sm
  have hG : ∃ G, s.own = true → SlT p K H' s v G ∧ G.Nodup ∧ ∀ a ∈ G, H a = none := by
    by_cases o : s.own = true
    · obtain ⟨G, g⟩ := n.fp o
      exact ⟨G, fun _ => g⟩
    · exact ⟨[], fun z => absurd z o⟩
  obtain ⟨G, hG⟩ := hG
  refine ⟨F.env.put n.ok, F.stay, fun j => if j = i then G else fp j, fun j sl w ej oj wj => ?_, fun j sl ej oj => ?_, fun j j' sl sl' ne ej ej' oj oj' a ha => ?_⟩
  · by_cases hj : j = i
    · subst hj
      have hl : j < ρ.length := by
        have := (List.getElem?_eq_some_iff.mp ej).1
        simpa using this
      rw [List.getElem?_set_self hl] at ej
      rw [List.getElem?_set_self (by rw [← F.env.len]; exact hl)] at wj
      cases ej
      cases wj
      simp only [if_true]
      exact (hG oj).1
    · rw [List.getElem?_set_ne (Ne.symm hj)] at ej wj
      simp only [if_neg hj]
      exact h.is j sl w ej oj wj
  · by_cases hj : j = i
    · subst hj
      have hl : j < ρ.length := by
        have := (List.getElem?_eq_some_iff.mp ej).1
        simpa using this
      rw [List.getElem?_set_self hl] at ej
      cases ej
      simp only [if_true]
      refine ⟨(hG oj).2.1, fun a ha => ?_⟩
      by_cases hb : a ∈ S.b
      · exact .inr hb
      · refine .inl ?_
        cases q : S.h a with
        | none => rfl
        | some o => have z := (hG oj).2.2 a ha; rw [k0.st a o hb q] at z; cases z
    · rw [List.getElem?_set_ne (Ne.symm hj)] at ej
      simp only [if_neg hj]
      exact h.new j sl ej oj
  · have key : ∀ {j' : Nat} {sl' : Sl}, j' ≠ i → ρ[j']? = some sl' → sl'.own = true → s.own = true → a ∈ G → a ∉ fp j' := by
      intro j' sl' hj' ej' oj' o' ha hb
      obtain ⟨w, hw⟩ := own_val F.env ej' oj'
      have m := (h0.is j' sl' w ej' oj' hw).mut a hb
      rw [(hG o').2.2 a ha] at m
      exact m
    by_cases hj : j = i <;> by_cases hj' : j' = i
    · exact absurd (hj.trans hj'.symm) ne
    · subst hj
      have hl : j < ρ.length := by
        have := (List.getElem?_eq_some_iff.mp ej).1
        simpa using this
      rw [List.getElem?_set_self hl] at ej
      cases ej
      rw [List.getElem?_set_ne (Ne.symm hj')] at ej'
      simp only [if_true] at ha
      simp only [if_neg hj']
      exact key hj' ej' oj' oj ha
    · subst hj'
      have hl : j' < ρ.length := by
        have := (List.getElem?_eq_some_iff.mp ej').1
        simpa using this
      rw [List.getElem?_set_self hl] at ej'
      cases ej'
      rw [List.getElem?_set_ne (Ne.symm hj)] at ej
      simp only [if_neg hj] at ha
      simp only [if_true]
      exact fun hb => key hj ej oj oj' hb ha
    · rw [List.getElem?_set_ne (Ne.symm hj)] at ej
      rw [List.getElem?_set_ne (Ne.symm hj')] at ej'
      simp only [if_neg hj] at ha
      simp only [if_neg hj']
      exact h.apart j j' sl sl' ne ej ej' oj oj' a ha
theorem rr_ex (h : PE X e (tE (pX X) X.K fa)) : PE X e (tR (pX X) X.K fun ρ => (fa ρ).map Sl.fz) := PEwk h fun σ H Q ⟨ρ, s, E, hf, q⟩ => by
  obtain ⟨d, e1, e2⟩ := mpd hf
  subst e2
  exact ⟨ρ, d, E, e1, fun v H' s' r => q v H' s' r⟩
theorem rr_nl {es : List Expr} {fs : RE (List D)} (ha : PA X es (tA (pX X) X.K fs)) (hz : es.length ≤ 1000) (hl : ∀ ρ ds, fs ρ = some ds → ds.length = es.length) : PE X (.List es pos) (tR (pX X) X.K fun ρ => (fs ρ).map fun ds => .ow (.list ds)) := PEwk (pe_lst ha) fun σ H Q ⟨ρ, s, E, hf, q⟩ => by
  obtain ⟨ds, e1, e2⟩ := mpd hf
  subst e2
  exact ⟨ρ, ds, E, e1, fun vs H1 s1 r1 => ⟨by rw [r1.len, hl ρ ds e1, sizeLine_eq]; omega, fun p hp => q _ _ (s1.trans (same_new hp)) ⟨p, rfl, s1.free hp, vs, upd_same, RpA.keep (same_new hp).kp _ _ r1⟩⟩⟩
theorem pe_dnewR : PE X (.Dict [] [] pos) (fun _ H Q => ∀ p, H p = none → Q (.ref p) (upd H p (rawO p #[]))) := ⟨fun pins s σ H Q I h =>
  wpAny_Dict_empty ⟨.ref s.heap.objs.size, _, I.laid (a := s.heap.objs.size) (o := rawO s.heap.objs.size #[]) (t' := s.toks) (fun _ _ q => Heap.get?_push_of_some _ q) (Nat.le_refl _) (raw_empty s.heap I.big), rfl, h _ (I.hok.fresh (Nat.le_refl _))⟩⟩
theorem ow_empty {p : PrW} {K : PySem.W.Frag} {H : Hp} {a : Addr} : Ow p K (upd H a (rawO a #[])) (.dict []) a := ⟨#[], upd_same, by simp only [List.toList_toArray, RpE], List.nodup_nil⟩
theorem rr_nd : PE X (.Dict [] [] pos) (tR (pX X) X.K fun _ => some (.ow (.dict []))) := PEwk pe_dnewR fun σ H Q ⟨ρ, s, E, hf, q⟩ => by
  cases hf
  exact fun p hp => q _ _ (same_new hp) ⟨p, rfl, hp, ow_empty⟩
/-- pairs as one stores them -/
def RpP (p : PrW) (K : PySem.W.Frag) (H : Hp) : List (D × D) → List (V × V) → Prop
  | [], ps => ps = []
  | (k, d) :: r, ps => ∃ u v l, ps = (u, v) :: l ∧ Rp p K H k u ∧ Rp p K H d v ∧ RpP p K H r l
theorem RpP.keep {p : PrW} {K : PySem.W.Frag} {H H' : Hp} (k : Kp H H') : ∀ (kds : List (D × D)) (ps : List (V × V)), RpP p K H kds ps → RpP p K H' kds ps
  | [], _, h => h
  | (q, d) :: r, _, ⟨u, v, l, e, h1, h2, h3⟩ => ⟨u, v, l, e, Rp.keep k _ _ h1, Rp.keep k _ _ h2, RpP.keep k r l h3⟩
theorem store_all {T : List D} (c : Ctx X) {a : Addr} {pins : List (Addr × Obj)} {σ : L2.St} {E : Value → Shared → Prop} : ∀ (kds : List (D × D)) (ps : List (V × V)) (vs : List (Value × Value)) (acc res : List (D × D)) (H : Hp) (s : Shared) (Q : PUnit → Shared → Prop),
    RpP (pX X) X.K H kds ps → VV ps vs → Inv X pins σ H s → DAcc (pX X) X.K H a acc → dictOfPairs T acc kds = some res → acc.length + kds.length ≤ sizeLine →
    (∀ s' es, Inv X pins σ (upd H a (rawO a es)) s' → DAcc (pX X) X.K (upd H a (rawO a es)) a res → Q PUnit.unit s') →
    wpAny (model X.prog X.w) X.A (forIn vs PUnit.unit fun (x : Value × Value) (_ : PUnit) => (do dictSet a x.1 x.2; pure (ForInStep.yield PUnit.unit) : Sem (ForInStep PUnit))) Q E s
  | [], ps, vs, acc, res, H, s, Q, hp, hv, I, d, e, hl, h => by
    subst hp
    cases hv
    simp only [dictOfPairs, Option.some.injEq] at e
    subst e
    rw [List.forIn_nil]
    obtain ⟨es, h1, h2, h3⟩ := d
    have hu : upd H a (rawO a es) = H := by
      funext b
      by_cases hb : b = a
      · subst hb; rw [upd_same, h1]
      · rw [upd_ne hb]
    exact wpAny_pure (h s es (by rw [hu]; exact I) (by rw [hu]; exact ⟨es, h1, h2, h3⟩))
  | (k, d) :: r, ps, vs, acc, res, H, s, Q, hp, hv, I, dc, e, hl, h => by
    obtain ⟨u, v, l, e1, h1, h2, h3⟩ := hp
    subst e1
    cases hv with
    | @cons p q ps' qs' hx ht =>
      simp only [dictOfPairs, keyK] at e
      obtain ⟨kq, e2, e3⟩ := Option.bind_eq_some_iff.mp e
      rw [List.length_cons] at hl
      rw [List.forIn_cons]
      refine wpAny_bind (wpAny_bind (dict_store (T := T) c I dc e2 hx.1 hx.2 h1 h2 (by omega) fun s' es I' dc' => wpAny_pure ?_))
      have kk : Kp H (upd H a (rawO a es)) := dc.kp
      have pl := putD_len (T := T) (acc := acc) (k := k) (d := d) (q := kq)
      refine store_all c r l qs' _ res _ s' Q (RpP.keep kk _ _ h3) ht I' dc' e3 (by omega) fun s2 es2 I2 d2 => ?_
      have hu : upd (upd H a (rawO a es)) a (rawO a es2) = upd H a (rawO a es2) := by
        funext b
        by_cases hb : b = a
        · subst hb; rw [upd_same, upd_same]
        · rw [upd_ne hb, upd_ne hb, upd_ne hb]
      rw [hu] at I2 d2
      exact h s2 es2 I2 d2
/-- {k: v, ..}; the new dict stands empty while the pairs are made -/
def tDispR (X : Cx) (T : List D) (trs : List (TE × TE)) : TE := fun σ H Q => ∀ p, H p = none → tPairs trs σ (upd H p (rawO p #[])) fun ps H2 => H2 p = some (rawO p #[]) ∧ ∃ (kds res : List (D × D)), RpP (pX X) X.K H2 kds ps ∧ kds.length ≤ 15 ∧ dictOfPairs T [] kds = some res ∧ ∀ es, Ow (pX X) X.K (upd H2 p (rawO p es)) (.dict res) p → Q (.ref p) (upd H2 p (rawO p es))
theorem pe_dispR (c : Ctx X) {T : List D} {keys : List (Option Expr)} {values : List Expr} {trs : List (TE × TE)} (h : PPs X pos keys values trs) (hall : keys.all (·.isSome) = true) (hl : keys.length = values.length) (h0 : keys ≠ [])
    (h15 : keys.length ≤ 15) : PE X (.Dict keys values pos) (tDispR X T trs) := by
  refine ⟨fun pins s σ H Q I q => ?_⟩
  have hn := I.hok.fresh (Nat.le_refl s.heap.objs.size)
  have I1 := I.laid (a := s.heap.objs.size) (o := rawO s.heap.objs.size #[]) (h' := s.heap.push { cls := .type "dict", data := .dict #[] }) (t' := s.toks) (fun _ _ q => Heap.get?_push_of_some _ q) (Nat.le_refl _) (raw_empty s.heap I.big)
  have hlen := pairTrees_length keys values X.env pos hall hl
  have hne : pairTrees keys values X.env pos ≠ [] := fun he => by
    rw [he] at hlen
    exact h0 (List.length_eq_zero_iff.mp hlen.symm)
  rw [arm_eval_Dict, zip_pairTrees keys values X.env pos hall hl, dictDisplay_pairs _ hne (by omega)]
  refine wpAny_bind (wpAny_standAt (wpAny_bind ?_))
  unfold subDict
  refine wpAny_bind (wpAny_alloc ?_)
  refine wpAny_bind (wpAny_holding ?_)
  rw [if_pos (by omega)]
  refine wpAny_bind (thn (h.run pins _ σ _ _ I1 (q _ hn)) fun ws s2 ⟨ps, H2, I2, rel, e, kds, res, rp, lk, ed, q2⟩ => ?_)
  refine wpAny_holding ?_
  refine wpAny_bind (store_all (T := T) c kds ps ws [] res H2 s2 _ rp rel I2 ⟨#[], e, by simp only [List.toList_toArray, RpE], List.nodup_nil⟩ ed (by rw [sizeLine_eq]; simp; omega) fun s3 es I3 d3 => wpAny_pure (wpAny_pure (wpAny_pure ⟨.ref s.heap.objs.size, _, I3, rfl, q2 es d3⟩)))
theorem rr_nd2 (c : Ctx X) {k1 v1 k2 v2 : Expr} {fk1 fv1 fk2 fv2 : RE D} {T : List D} (hk1 : PE X k1 (tE (pX X) X.K fk1)) (hv1 : PE X v1 (tE (pX X) X.K fv1)) (hk2 : PE X k2 (tE (pX X) X.K fk2)) (hv2 : PE X v2 (tE (pX X) X.K fv2)) :
    PE X (.Dict [some k1, some k2] [v1, v2] pos) (tR (pX X) X.K fun ρ => (fk1 ρ).bind fun a => (fv1 ρ).bind fun b => (fk2 ρ).bind fun c => (fv2 ρ).bind fun d => (disp2 T a b c d).map Sl.ow) :=
  PEwk (pe_dispR (T := T) c (pps_cons hk1 hv1 (pps_cons hk2 hv2 pps_nil)) rfl rfl (by simp) (by simp)) fun σ H Q ⟨ρ, s, E, hf, q⟩ => by
    obtain ⟨a, e1, hf⟩ := bnd hf
    obtain ⟨b, e2, hf⟩ := bnd hf
    obtain ⟨c, e3, hf⟩ := bnd hf
    obtain ⟨d, e4, hf⟩ := bnd hf
    obtain ⟨dd, e5, e6⟩ := mpd hf
    subst e6
    unfold disp2 at e5
    obtain ⟨res, f1, e7⟩ := mpd e5
    subst e7
    intro p hp
    have s0 : Same H (upd H p (rawO p #[])) := same_new hp
    refine ⟨ρ, _, E.same s0, e1, fun x H1 s1 r1 => ⟨ρ, _, E.same (s0.trans s1), e2, fun y H2 s2 r2 => ⟨ρ, _, E.same ((s0.trans s1).trans s2), e3, fun z H3 s3 r3 => ⟨ρ, _, E.same (((s0.trans s1).trans s2).trans s3), e4, fun w H4 s4 r4 => ?_⟩⟩⟩⟩
    have s14 : Same (upd H p (rawO p #[])) H4 := ((s1.trans s2).trans s3).trans s4
    have hp4 : H4 p = some (rawO p #[]) := s14 p _ upd_same
    refine ⟨hp4, [(a, b), (c, d)], res, ⟨x, y, _, rfl, Rp.keep ((s2.trans s3).trans s4).kp _ _ r1, Rp.keep (s3.trans s4).kp _ _ r2, z, w, _, rfl, Rp.keep s4.kp _ _ r3, r4, rfl⟩, by simp, f1, fun es o => ?_⟩
    refine q _ _ (fun b' u hb' => ?_) ⟨p, rfl, hp, o⟩
    have hne : b' ≠ p := fun e => by rw [e, hp] at hb'; cases hb'
    rw [upd_ne hne]
    exact s14 b' u (s0 b' u hb')
variable {i j k : Nat} {x y z : Str} {fr fr2 fr3 : En → Option Sl}
theorem rs_new (c : Ctx X) {pos' : Pos} (hi : X.N[i]? = some x) (hx : Loc X.env.scope x) (hf : X.fn x = true ∨ X.env.scope.names.lookup x = some .local) (he : PE X e (tR (pX X) X.K fr)) (hs : swapsWith e (some (.Name x pos')) pos.line X.env = pure false) :
    PS X (.Assign [.Name x pos'] e pos) (tS (pX X) X.K H0 fun ρ => (fr ρ).map fun s => .nx (ρ.set i s)) := by
  refine PSwk (ps_set c.nd hi hx he hs hf) fun E σ H ⟨ρ, o, F, hf, q⟩ => ?_
  obtain ⟨s, e1, e2⟩ := mpd hf
  subst e2
  exact ⟨ρ, s, F.env, e1, fun v H1 s1 n => q _ H1 s1.kp (F.put s1 n)⟩
theorem rs_par (c : Ctx X) {a b : Expr} {px py pt : Pos} {kt k2 : Nat} {pt2 : Pos} (hi : X.N[i]? = some x) (hj : X.N[j]? = some y) (hij : i ≠ j) (hx : X.env.scope.names.lookup x = some .local) (hy : X.env.scope.names.lookup y = some .local)
    (ha : PE X a (tR (pX X) X.K fr)) (hb : PE X b (tR (pX X) X.K fr2)) (he : starEach [a, b] X.env = (false, eval a X.env) :: starEach [b] X.env) (he2 : starEach [b] X.env = (false, eval b X.env) :: starEach [] X.env)
    (hw : swappedStores [.Tuple [.Name x px, .Name y py] kt pt] (.Tuple [a, b] k2 pt2) X.env = pure (some [x, y])) :
    PS X (.Assign [.Tuple [.Name x px, .Name y py] kt pt] (.Tuple [a, b] k2 pt2) pos) (tS (pX X) X.K H0 fun ρ => (fr ρ).bind fun u => (fr2 ρ).map fun v => .nx ((ρ.set i u).set j v)) := by
  refine PSwk (ps_par c.calm c.nd hi hj hij hx hy (pa_cons ha (pa_cons hb pa_nil he2) he) hw rfl) fun E σ H ⟨ρ, o, F, hf, q⟩ => ?_
  obtain ⟨u, e1, hf⟩ := bnd hf
  obtain ⟨w, e2, e3⟩ := mpd hf
  subst e3
  refine ⟨ρ, u, F.env, e1, fun v1 H1 s1 n1 => ⟨ρ, w, F.env.same s1, e2, fun v2 H2 s2 n2 => ⟨v1, v2, rfl, ?_⟩⟩⟩
  have F1 := F.put (i := i) s1 n1
  have F2 := F1.put (i := j) s2 n2
  exact q _ H2 (s1.trans s2).kp F2
theorem rs_par3 (c : Ctx X) {a b d : Expr} {px py pz pt : Pos} {kt k2 : Nat} {pt2 : Pos} (hi : X.N[i]? = some x) (hj : X.N[j]? = some y) (hk : X.N[k]? = some z) (hij : i ≠ j) (hik : i ≠ k) (hjk : j ≠ k) (hx : X.env.scope.names.lookup x = some .local) (hy : X.env.scope.names.lookup y = some .local) (hz : X.env.scope.names.lookup z = some .local)
    (ha : PE X a (tR (pX X) X.K fr)) (hb : PE X b (tR (pX X) X.K fr2)) (hd : PE X d (tR (pX X) X.K fr3)) (he : starEach [a, b, d] X.env = (false, eval a X.env) :: starEach [b, d] X.env) (he2 : starEach [b, d] X.env = (false, eval b X.env) :: starEach [d] X.env) (he3 : starEach [d] X.env = (false, eval d X.env) :: starEach [] X.env)
    (hw : swappedStores [.Tuple [.Name x px, .Name y py, .Name z pz] kt pt] (.Tuple [a, b, d] k2 pt2) X.env = pure (some [x, y, z])) :
    PS X (.Assign [.Tuple [.Name x px, .Name y py, .Name z pz] kt pt] (.Tuple [a, b, d] k2 pt2) pos) (tS (pX X) X.K H0 fun ρ => (fr ρ).bind fun u => (fr2 ρ).bind fun v => (fr3 ρ).map fun w => .nx (((ρ.set i u).set j v).set k w)) := by
  refine PSwk (ps_par3 c.calm c.nd hi hj hk hij hik hjk hx hy hz (pa_cons ha (pa_cons hb (pa_cons hd pa_nil he3) he2) he) hw rfl) fun E σ H ⟨ρ, o, F, hf, q⟩ => ?_
  obtain ⟨u, e1, hf⟩ := bnd hf
  obtain ⟨w, e2, hf⟩ := bnd hf
  obtain ⟨t, e3, e4⟩ := mpd hf
  subst e4
  refine ⟨ρ, u, F.env, e1, fun v1 H1 s1 n1 => ⟨ρ, w, F.env.same s1, e2, fun v2 H2 s2 n2 => ⟨ρ, t, F.env.same (s1.trans s2), e3, fun v3 H3 s3 n3 => ⟨v1, v2, v3, rfl, ?_⟩⟩⟩⟩
  have F1 := F.put (i := i) s1 n1
  have F2 := F1.put (i := j) s2 n2
  have F3 := F2.put (i := k) s3 n3
  exact q _ H3 ((s1.trans s2).trans s3).kp F3
/-! numbers added on -/
theorem ip_of {o : Op2} : PIp X (opPy o) (rD (pX X) X.K (augD o)) := by
  intro pins s σ H x y v u Q I rx ry ⟨d, e, r, hd, he, hf, g⟩
  unfold augD at hf
  split at hf
  · cases hf
    rw [rpInt] at hd he
    exact iop_add pins s σ H x y v u Q I rx ry ⟨_, _, hd, he, g.int⟩
  · cases hf
    rw [rpInt] at hd he
    exact iop_sub pins s σ H x y v u Q I rx ry ⟨_, _, hd, he, g.int⟩
  · split at hf
    · rename_i hz
      cases hf
      rw [rpInt] at hd he
      exact iop_mul pins s σ H x y v u Q I rx ry ⟨_, _, hd, he, hz, g.int⟩
    · cases hf
  · split at hf
    · rename_i hz
      cases hf
      rw [rpInt] at hd he
      exact iop_fdivW pins s σ H x y v u Q I rx ry ⟨_, _, hd, he, hz, g.int⟩
    · cases hf
  · split at hf
    · rename_i hz
      cases hf
      rw [rpInt] at hd he
      exact iop_mod pins s σ H x y v u Q I rx ry ⟨_, _, hd, he, hz, g.int⟩
    · cases hf
  · cases hf
theorem rs_aug (c : Ctx X) {pos' : Pos} {o : Op2} (hi : X.N[i]? = some x) (hx : Loc X.env.scope x) (hf : X.fn x = true ∨ X.env.scope.names.lookup x = some .local) (he : PE X e (tE (pX X) X.K fa)) :
    PS X (.AugAssign (.Name x pos') (opPy o) e pos) (tS (pX X) X.K H0 fun ρ => (ρ.get i).bind fun x => (fa ρ).bind fun y => (augD o x y).map fun z => .nx (ρ.set i (.fz z))) := by
  refine PSwk (ps_aug c.nd hi hx he (ip_of (o := o)) hf) fun E σ H ⟨ρ, o', F, hf, q⟩ => ?_
  obtain ⟨a, e1, hf⟩ := bnd hf
  obtain ⟨b, e2, hf⟩ := bnd hf
  obtain ⟨r, e3, e4⟩ := mpd hf
  subst e4
  obtain ⟨v, e5, r5⟩ := F.env.get e1
  refine ⟨v, e5, ρ, b, F.env, e2, fun u H1 s1 r1 => ⟨a, b, r, Rp.keep s1.kp _ _ r5, r1, e3, fun w H2 s2 r2 => ?_⟩⟩
  have F2 := F.up (s1.trans s2)
  exact q _ H2 (s1.trans s2).kp (F2.sub (F2.env.set r2) OwSub.set)
end
end PL


set_option Elab.async false
set_option linter.all false
set_option maxRecDepth 100000
/-! PLta: trees made, and trees frozen. -/
namespace PL
open PySem PySem.Spec PyProof.Rows L2
section
variable {p : PrW} {K : PySem.W.Frag} {H H' : Hp}
theorem rpE_of : ∀ {ks : List D} {vs : List V} {ds : List D} {l : List DictEntry}, KeyE p K H ks l → ValE vs l → RpA p K H ds vs → RpE p K H (ks.zip ds) l
  | [], vs, ds, l, hk, hv, hd => by
    have hk : l = [] := hk
    subst hk
    simp only [List.zip_nil_left, RpE]
  | k :: ks, vs, ds, l, hk, hv, hd => by
    obtain ⟨e, l', u, q, e1, e2, e3, e4, e5, e6⟩ := hk
    subst e1
    cases vs with
    | nil => cases (show e :: l' = [] from hv)
    | cons v vs =>
      obtain ⟨e', l'', e7, e8, e9⟩ := hv
      cases e7
      cases ds with
      | nil =>
        simp only [RpA] at hd
        cases hd
      | cons d ds =>
        simp only [RpA] at hd
        obtain ⟨w, ws, f1, f2, f3⟩ := hd
        cases f1
        simp only [List.zip_cons_cons, RpE]
        exact ⟨_, _, u, v, q, rfl, e2, e3, e4, e5, e8, f2, rpE_of e6 e9 f3⟩
theorem rpF_of : ∀ {ns : List Str} {vs : List V} {ds : List D}, ns.length = vs.length → RpA p K H ds vs → RpF p K H ((ns.map PyData.str).zip ds) (ns.zip vs)
  | [], vs, ds, hl, hd => by simp only [List.map_nil, List.zip_nil_left, RpF]
  | n :: ns, vs, ds, hl, hd => by
    cases vs with
    | nil => simp at hl
    | cons v vs =>
      cases ds with
      | nil =>
        simp only [RpA] at hd
        cases hd
      | cons d ds =>
        simp only [RpA] at hd
        obtain ⟨w, ws, f1, f2, f3⟩ := hd
        cases f1
        simp only [List.map_cons, List.zip_cons_cons, RpF]
        exact ⟨n, v, _, rfl, rfl, f2, rpF_of (by simpa using hl) f3⟩
theorem toDs_len : ∀ (ts : List Od), (Od.toDs ts).length = ts.length
  | [] => by simp only [Od.toDs, List.length_nil]
  | t :: ts => by simp only [Od.toDs, List.length_cons, toDs_len ts]
theorem KeyE.dlen {ks : List D} {vs : List V} {l : List DictEntry} (h : KeyE p K H ks l) (h2 : ValE vs l) : ks.length = vs.length := by rw [← h.len, h2.len]
/-- locked: what is frozen stays, and all that is not among the tree's own things -/
structure Lk (F : List Addr) (H H' : Hp) : Prop where
  kp : Kp H H'
  off : ∀ b, b ∉ F → H' b = H b
theorem Lk.kpO {F : List Addr} (x : Lk F H H') : ∀ b, b ∉ F → ∀ o, H b = some o → H' b = some o := fun b n o e => by rw [x.off b n]; exact e
end
section
variable {X : Cx} {pins : List (Addr × Obj)} {σ : L2.St} {s : Shared}
mutual
theorem lockT : ∀ (t : Od) (v : V) (F : List Addr) (H : Hp), Inv X pins σ H s → OwT (pX X) X.K H t v F → F.Nodup → ∃ H', Inv X pins σ H' s ∧ Lk F H H' ∧ Rp (pX X) X.K H' t.toD v
  | .fz d, v, F, H, I, h, nd => by
    simp only [OwT] at h
    exact ⟨H, I, ⟨Kp.refl H, fun _ _ => rfl⟩, by simpa only [Od.toD] using h.2⟩
  | .lst xs, v, F, H, I, h, nd => by
    simp only [OwT] at h
    obtain ⟨a, vs, G, e1, e2, e3, e4⟩ := h
    subst e1 e2
    have nd' := List.nodup_cons.mp nd
    obtain ⟨H1, I1, k1, r1⟩ := lockA xs vs G H I e4 nd'.2
    have h1 : H1 a = some (.lst vs) := by rw [k1.off a nd'.1]; exact e3
    obtain ⟨od, I2⟩ := I1.lock h1 True.intro
    have kp : Kp H1 (upd H1 a (.frz od (.lst vs))) := kp_upd h1 True.intro
    refine ⟨_, I2, ⟨k1.kp.trans kp, fun b hb => ?_⟩, ?_⟩
    · rw [List.mem_cons, not_or] at hb
      rw [upd_ne hb.1, k1.off b hb.2]
    · simp only [Od.toD]
      exact rpLst.mpr ⟨a, vs, rfl, .inl ⟨od, upd_same⟩, RpA.keep kp _ _ r1⟩
  | .dct ks xs, v, F, H, I, h, nd => by
    simp only [OwT] at h
    obtain ⟨a, es, vs, G, e1, e2, e3, e4, e5, e6, e7⟩ := h
    subst e1 e2
    have nd' := List.nodup_cons.mp nd
    obtain ⟨H1, I1, k1, r1⟩ := lockA xs vs G H I e7 nd'.2
    have h1 : H1 a = some (rawO a es) := by rw [k1.off a nd'.1]; exact e3
    obtain ⟨od, I2⟩ := I1.lock h1 True.intro
    have kp : Kp H1 (upd H1 a (.frz od (rawO a es))) := kp_upd h1 True.intro
    refine ⟨_, I2, ⟨k1.kp.trans kp, fun b hb => ?_⟩, ?_⟩
    · rw [List.mem_cons, not_or] at hb
      rw [upd_ne hb.1, k1.off b hb.2]
    · simp only [Od.toD, Rp]
      refine ⟨a, rfl, .inl ⟨od, es, upd_same, rpE_of (e4.keep (k1.kp.trans kp)) e6 (RpA.keep kp _ _ r1), ?_⟩⟩
      have hl : ks.length = (Od.toDs xs).length := by rw [toDs_len, ← e7.len]; exact e4.dlen e6
      rw [List.map_fst_zip (by omega)]
      exact e5
  | .obj c ns xs, v, F, H, I, h, nd => by
    simp only [OwT] at h
    obtain ⟨a, C, dx, vs, G, e1, e2, e3, e4, e5, e6⟩ := h
    subst e1 e2
    have nd' := List.nodup_cons.mp nd
    obtain ⟨H1, I1, k1, r1⟩ := lockA xs vs G H I e6 nd'.2
    have h1 : H1 a = some (.ins C dx (ns.zip vs)) := by rw [k1.off a nd'.1]; exact e4
    obtain ⟨od, I2⟩ := I1.lock h1 True.intro
    have kp : Kp H1 (upd H1 a (.frz od (.ins C dx (ns.zip vs)))) := kp_upd h1 True.intro
    refine ⟨_, I2, ⟨k1.kp.trans kp, fun b hb => ?_⟩, ?_⟩
    · rw [List.mem_cons, not_or] at hb
      rw [upd_ne hb.1, k1.off b hb.2]
    · simp only [Od.toD, Rp]
      refine ⟨a, rfl, .inr ⟨od, C, dx, _, upd_same, ?_⟩⟩
      simp only [RpO]
      exact ⟨trivial, ⟨c, rfl, e3⟩, rpF_of e5 (RpA.keep kp _ _ r1)⟩
theorem lockA : ∀ (ts : List Od) (vs : List V) (F : List Addr) (H : Hp), Inv X pins σ H s → OwA (pX X) X.K H ts vs F → F.Nodup → ∃ H', Inv X pins σ H' s ∧ Lk F H H' ∧ RpA (pX X) X.K H' (Od.toDs ts) vs
  | [], vs, F, H, I, h, nd => by
    simp only [OwA] at h
    obtain ⟨e1, e2⟩ := h
    subst e1 e2
    exact ⟨H, I, ⟨Kp.refl H, fun _ _ => rfl⟩, by simp only [Od.toDs, RpA]⟩
  | t :: ts, vs, F, H, I, h, nd => by
    simp only [OwA] at h
    obtain ⟨v, vs', F1, F2, e1, e2, e3, e4⟩ := h
    subst e1 e2
    obtain ⟨n1, n2, n3⟩ := List.nodup_append.mp nd
    obtain ⟨H1, I1, k1, r1⟩ := lockT t v F1 H I e3 n1
    have e4' := OwA.frame k1.kp ts vs' F2 (fun b hb o e => k1.kpO b (fun hb' => n3 b hb' b hb rfl) o e) e4
    obtain ⟨H2, I2, k2, r2⟩ := lockA ts vs' F2 H1 I1 e4' n2
    refine ⟨H2, I2, ⟨k1.kp.trans k2.kp, fun b hb => ?_⟩, ?_⟩
    · rw [List.mem_append, not_or] at hb
      rw [k2.off b hb.2, k1.off b hb.1]
    · simp only [Od.toDs, RpA]
      exact ⟨v, vs', rfl, Rp.keep k2.kp _ _ r1, r2⟩
end
end
/-! new trees -/
section
variable {X : Cx} {H0 : Bg} {pos : Pos} {e : Expr} {fa : RE D}
def tOt (p : PrW) (K : PySem.W.Frag) (f : En → Option Od) : TE := fun σ H Q => ∃ ρ t, EnvOk p K H ρ σ ∧ f ρ = some t ∧ ∀ v H' F, Same H H' → OwT p K H' t v F → F.Nodup → (∀ a ∈ F, H a = none) → Q v H'
def tOA (p : PrW) (K : PySem.W.Frag) (f : En → Option (List Od)) : TA := fun σ H Q => ∃ ρ ts, EnvOk p K H ρ σ ∧ f ρ = some ts ∧ ∀ vs H' F, Same H H' → OwA p K H' ts vs F → F.Nodup → (∀ a ∈ F, H a = none) → Q vs H'
theorem ro_ex (h : PE X e (tE (pX X) X.K fa)) : PE X e (tOt (pX X) X.K fun ρ => (fa ρ).map Od.fz) := PEwk h fun σ H Q ⟨ρ, t, E, hf, q⟩ => by
  obtain ⟨d, e1, e2⟩ := mpd hf
  subst e2
  exact ⟨ρ, d, E, e1, fun v H' s' r => q v H' [] s' (by simp only [OwT]; exact ⟨trivial, r⟩) List.nodup_nil (by simp)⟩
theorem ro_nd : PE X (.Dict [] [] pos) (tOt (pX X) X.K fun _ => some (.dct [] [])) := PEwk pe_dnewR fun σ H Q ⟨ρ, s, E, hf, q⟩ => by
  cases hf
  exact fun p hp => q _ _ [p] (same_new hp) (by simp only [OwT, OwA]; exact ⟨p, #[], [], [], rfl, rfl, upd_same, rfl, List.nodup_nil, rfl, rfl, rfl⟩) (by simp) (by simpa using hp)
theorem roa_nil : PA X [] (tOA (pX X) X.K fun _ => some []) := PAwk pa_nil fun σ H Q ⟨ρ, s, E, hf, q⟩ => by
  cases hf
  exact q [] H [] (Same.refl H) (by simp [OwA]) List.nodup_nil (by simp)
theorem roa_cons {es : List Expr} {fo : En → Option Od} {fs : En → Option (List Od)} (h : PE X e (tOt (pX X) X.K fo)) (hs : PA X es (tOA (pX X) X.K fs)) (hst : starEach (e :: es) X.env = (false, eval e X.env) :: starEach es X.env) : PA X (e :: es) (tOA (pX X) X.K fun ρ => (fo ρ).bind fun t => (fs ρ).map (t :: ·)) := PAwk (pa_cons h hs hst) fun σ H Q ⟨ρ, s, E, hf, q⟩ => by
  obtain ⟨t, e1, hf⟩ := bnd hf
  obtain ⟨ts, e2, e3⟩ := mpd hf
  subst e3
  refine ⟨ρ, t, E, e1, fun v H1 F1 s1 o1 n1 f1 => ⟨ρ, ts, E.same s1, e2, fun vs H2 F2 s2 o2 n2 f2 => q _ H2 (F1 ++ F2) (s1.trans s2) ?_ ?_ ?_⟩⟩
  · simp only [OwA]
    exact ⟨v, vs, F1, F2, rfl, rfl, o1.same s2, o2⟩
  · refine List.nodup_append.mpr ⟨n1, n2, fun a ha b hb e => ?_⟩
    subst e
    obtain ⟨o, ho⟩ := o1.isat ha
    rw [f2 a hb] at ho
    cases ho
  · intro a ha
    rcases List.mem_append.mp ha with ha | ha
    · exact f1 a ha
    · have z := f2 a ha
      cases q : H a with
      | none => rfl
      | some o => rw [s1 a o q] at z; cases z
theorem ro_nl {es : List Expr} {fs : En → Option (List Od)} (ha : PA X es (tOA (pX X) X.K fs)) (hz : es.length ≤ 1000) (hl : ∀ ρ ts, fs ρ = some ts → ts.length = es.length) : PE X (.List es pos) (tOt (pX X) X.K fun ρ => (fs ρ).map Od.lst) := PEwk (pe_lst ha) fun σ H Q ⟨ρ, s, E, hf, q⟩ => by
  obtain ⟨ts, e1, e2⟩ := mpd hf
  subst e2
  refine ⟨ρ, ts, E, e1, fun vs H1 F s1 o1 n1 f1 => ⟨by rw [o1.len, hl ρ ts e1, sizeLine_eq]; omega, fun p hp => q _ _ (p :: F) (s1.trans (same_new hp)) ?_ ?_ ?_⟩⟩
  · simp only [OwT]
    exact ⟨p, vs, F, rfl, rfl, upd_same, o1.same (same_new hp)⟩
  · refine List.nodup_cons.mpr ⟨fun hm => ?_, n1⟩
    have m := ow_mut.2 ts vs F o1 p hm
    rw [hp] at m
    exact m
  · intro a ha
    rcases List.mem_cons.mp ha with rfl | ha
    · exact s1.free hp
    · exact f1 a ha
theorem rr_tr {fo : En → Option Od} (h : PE X e (tOt (pX X) X.K fo)) : PE X e (tR (pX X) X.K fun ρ => (fo ρ).map Sl.tr) := PEwk h fun σ H Q ⟨ρ, s, E, hf, q⟩ => by
  obtain ⟨t, e1, e2⟩ := mpd hf
  subst e2
  exact ⟨ρ, t, E, e1, fun v H' F s' o n f => q v H' s' ⟨F, o, n, f⟩⟩
end
end PL


set_option Elab.async false
set_option linter.all false
set_option maxRecDepth 100000
/-! PLu: statements, further. -/
namespace PL
open PySem PySem.Spec PyProof.Rows L2
section
variable {X : Cx} {H0 : Bg} {pos : Pos} {e : Expr} {fa : RE D} {T : List D}
/-- an owned slot's new content -/
theorem Fr.own_set {p : PrW} {K : PySem.W.Frag} {S : Bg} {H1 : Hp} {ρ : En} {σ : L2.St} {i : Nat} {d d' : D} {a : Addr} {o : HO} (F : Fr p K S H1 ρ σ) (hi : ρ.own i = some d) (ha : σ[i]? = some (some (.ref a))) (h' : Ow p K (upd H1 a o) d' a) : Fr p K S (upd H1 a o) (ρ.set i (.ow d')) σ ∧ Kp H1 (upd H1 a o) := by
  obtain ⟨fp, h⟩ := F.fp
  have e : ρ[i]? = some (.ow d) := by
    unfold En.own at hi
    split at hi
    · rename_i d0 e0; cases hi; exact e0
    · cases hi
  obtain ⟨a', e1, e2, ow⟩ := h.is i _ _ e rfl ha
  cases e1
  obtain ⟨o1, h1, mu⟩ := ow_some ow
  have kp : Kp H1 (upd H1 a o) := kp_upd h1 mu
  refine ⟨F.chg h (G := [a]) e rfl ha kp (fun b hb u eb => ?_) ⟨a, rfl, h'⟩ fun _ => ⟨⟨a, rfl, rfl, h'⟩, by simp, fun b hb => .inl (by rw [e2]; exact hb)⟩, kp⟩
  rw [e2, List.mem_singleton] at hb
  rw [upd_ne hb]
  exact eb
theorem appD_eq {x d z : D} (h : appD x d = some z) : ∃ ds, x = .list ds ∧ z = .list (ds ++ [d]) ∧ ds.length < sizeLine := by
  cases x <;> simp only [appD] at h <;> try (cases h; done)
  split at h
  · rename_i hz
    cases h
    have z := of_decide_eq_true hz
    exact ⟨_, rfl, rfl, by omega⟩
  · cases h
theorem dputD_eq {x y d z : D} (h : dputD T x y d = some z) : ∃ kvs q, x = .dict kvs ∧ keyK T kvs y = some q ∧ z = .dict (putD T kvs y q d) ∧ kvs.length < sizeLine := by
  cases x <;> simp only [dputD] at h <;> try (cases h; done)
  obtain ⟨q, e1, e2⟩ := bnd h
  split at e2
  · rename_i hz
    cases e2
    have z := of_decide_eq_true hz
    exact ⟨_, q, rfl, e1, rfl, by omega⟩
  · cases e2
theorem rs_app {i : Nat} {x : Str} {p1 apos cpos : Pos} (hN : X.N[i]? = some x) (hv : Vis X.env.scope x) (hd0 : (x == ("__debug__" : Str)) = false) (hcd : (x == ("__classdict__" : Str)) = false) (he : PE X e (tE (pX X) X.K fa)) (hl : apos.endLine = cpos.line) (hst : starEach [e] X.env = (false, eval e X.env) :: starEach [] X.env) :
    PS X (.Expr (.Call (.Attribute (.Name x p1) "append" apos) [e] [] cpos) pos) (tS (pX X) X.K H0 fun ρ => (ρ.own i).bind fun x => (fa ρ).bind fun d => (appD x d).map fun z => .nx (ρ.set i (.ow z))) := by
  have pe : PE X (.Call (.Attribute (.Name x p1) "append" apos) [e] [] cpos) (fun σ H Q => tVar i σ H fun v H1 => (∃ l, v = .ref l ∧ ∃ xs, H1 l = some (.lst xs)) ∧ tE (pX X) X.K fa σ H1 fun y H2 => rAppend v [y] H2 Q) := by
    refine ⟨fun pins s σ H Q I h => ?_⟩
    refine wpAny_Call_method (T := "list") (id := "list.append") rfl (by rw [hst]; rfl) (by rw [hl]; simp) F.plainAttrs_list F.slot_list_append F.type_list_append (thn ((pe_var hN hv hd0 hcd).run pins s σ H _ I h) fun u s1 ⟨v, H1, I1, rx, ⟨l, ev, xs, hxs⟩, q1⟩ => ?_)
    subst ev
    obtain rfl : u = Value.ref l := rx
    obtain ⟨_, its, n, _, e1⟩ := (show ObjOk X.prog X.w H1 s1.heap l (.lst xs) from I1.hok l _ hxs)
    refine ⟨⟨_, e1, rfl⟩, fun a ha => by cases ha; exact ⟨_, e1, rfl⟩, ?_⟩
    rw [hst]
    refine Calls.callWith_builtin rfl (Calls.evalArgs_plain (Calls.spliced_cons (thn (he.run pins s1 σ H1 _ I1 q1) fun iv s2 ⟨y, H2, I2, ry, q2⟩ => Calls.spliced_nil ?_)))
    exact mt_append pins s2 σ H2 (.ref l) [y] (.ref l) [iv] Q I2 rfl (.cons ry .nil) q2
  refine PSwk (ps_expr pe) fun E σ H ⟨ρ, o, F, hf, q⟩ => ?_
  obtain ⟨x, e1, hf⟩ := bnd hf
  obtain ⟨d, e2, hf⟩ := bnd hf
  obtain ⟨z, e3, e4⟩ := mpd hf
  subst e4
  obtain ⟨a, ha, ow⟩ := F.env.own e1
  obtain ⟨ds, ex, ez, hz⟩ := appD_eq e3
  subst ex ez
  obtain ⟨xs, h1, h2⟩ := ow
  refine ⟨_, ha, ⟨a, rfl, xs, h1⟩, ρ, d, F.env, e2, fun v H1 s1 r1 => ?_⟩
  refine ⟨a, xs, v, rfl, rfl, s1 _ _ h1, by rw [h2.len]; exact hz, ?_⟩
  have kp : Kp H1 (upd H1 a (.lst (xs ++ [v]))) := kp_upd (s1 _ _ h1) True.intro
  obtain ⟨F2, k2⟩ := Fr.own_set (o := .lst (xs ++ [v])) (d' := .list (ds ++ [d])) (F.up s1) e1 ha ⟨xs ++ [v], upd_same, RpA.app (RpA.keep (s1.kp.trans kp) _ _ h2) (.cons (Rp.keep kp _ _ r1) .nil)⟩
  exact q σ _ (s1.kp.trans k2) F2
theorem insD_eq {x y d z : D} (h : insD x y d = some z) : ∃ ds i, x = .list ds ∧ y = .int i ∧ 0 ≤ i ∧ i < 2 ^ 62 ∧ z = .list (ds.take i.toNat ++ [d] ++ ds.drop i.toNat) ∧ ds.length < sizeLine := by
  cases x <;> simp only [insD] at h <;> try (cases h; done)
  cases y <;> simp only [insD] at h <;> try (cases h; done)
  split at h
  · rename_i hz
    cases h
    have z := of_decide_eq_true hz.2.2
    exact ⟨_, _, rfl, rfl, hz.1, hz.2.1, rfl, by omega⟩
  · cases h
theorem RpA.tkdr {p : PrW} {K : PySem.W.Frag} {H : Hp} : ∀ {ds : List D} {xs : List V} (n : Nat), RpA p K H ds xs → RpA p K H (ds.take n) (xs.take n) ∧ RpA p K H (ds.drop n) (xs.drop n)
  | ds, xs, 0, h => ⟨by simp only [List.take_zero, RpA], by simpa using h⟩
  | [], xs, n + 1, h => by
    simp only [RpA] at h
    subst h
    exact ⟨by simp only [List.take_nil, RpA], by simp only [List.drop_nil, RpA]⟩
  | d :: ds, xs, n + 1, h => by
    simp only [RpA] at h
    obtain ⟨v, vs, e, h1, h2⟩ := h
    subst e
    obtain ⟨a, b⟩ := RpA.tkdr n h2
    refine ⟨?_, by simpa only [List.drop_succ_cons] using b⟩
    simp only [List.take_succ_cons, RpA]
    exact ⟨_, _, rfl, h1, a⟩
theorem rs_ins {i : Nat} {x : Str} {p1 apos cpos : Pos} {k : Expr} {fk : RE D} (hN : X.N[i]? = some x) (hv : Vis X.env.scope x) (hd0 : (x == ("__debug__" : Str)) = false) (hcd : (x == ("__classdict__" : Str)) = false) (hk : PE X k (tE (pX X) X.K fk)) (he : PE X e (tE (pX X) X.K fa)) (hl : apos.endLine = cpos.line) (hst : starEach [k, e] X.env = (false, eval k X.env) :: starEach [e] X.env) (hst2 : starEach [e] X.env = (false, eval e X.env) :: starEach [] X.env) :
    PS X (.Expr (.Call (.Attribute (.Name x p1) "insert" apos) [k, e] [] cpos) pos) (tS (pX X) X.K H0 fun ρ => (ρ.own i).bind fun x => (fk ρ).bind fun y => (fa ρ).bind fun d => (insD x y d).map fun z => .nx (ρ.set i (.ow z))) := by
  have pe := pe_bm (apos := apos) (cpos := cpos) PySem.F.plainAttrs_list PySem.F.slot_list_insert PySem.F.type_list_insert mt_insert (pe_var (pos := p1) hN hv hd0 hcd) (pa_cons hk (pa_cons he pa_nil hst2) hst) rfl (by rw [hst, hst2]; rfl) (by rw [hl]; simp) hst (by rw [hst2]; rfl)
  refine PSwk (ps_expr pe) fun E σ H ⟨ρ, o, F, hf, q⟩ => ?_
  obtain ⟨x, e1, hf⟩ := bnd hf
  obtain ⟨y, e2, hf⟩ := bnd hf
  obtain ⟨d, e3, hf⟩ := bnd hf
  obtain ⟨z, e4, e5⟩ := mpd hf
  subst e5
  obtain ⟨a, ha, ow⟩ := F.env.own e1
  obtain ⟨ds, n, ex, ey, n0, n1, ez, hz⟩ := insD_eq e4
  subst ex ey ez
  obtain ⟨xs, h1, h2⟩ := ow
  refine ⟨_, ha, .inl ⟨rfl, _, SqL.of h1⟩, ρ, _, F.env, e2, fun u H2 s2 r2 => ⟨ρ, d, F.env.same s2, e3, fun v H3 s3 r3 => ?_⟩⟩
  have s13 := s2.trans s3
  have n62 : n < 2 ^ 63 := by omega
  refine ⟨a, xs, n, v, rfl, by rw [rpInt.mp r2], s13 _ _ h1, by rw [h2.len]; exact hz, n0, n62, ?_⟩
  have kp : Kp H3 (upd H3 a (.lst (xs.take n.toNat ++ [v] ++ xs.drop n.toNat))) := kp_upd (s13 _ _ h1) True.intro
  obtain ⟨t1, t2⟩ := RpA.tkdr n.toNat (RpA.keep (s13.kp.trans kp) _ _ h2)
  obtain ⟨F2, k2⟩ := Fr.own_set (o := .lst (xs.take n.toNat ++ [v] ++ xs.drop n.toNat)) (d' := .list (ds.take n.toNat ++ [d] ++ ds.drop n.toNat)) (F.up s13) e1 ha ⟨_, upd_same, RpA.app (RpA.app t1 (.cons (Rp.keep kp _ _ r3) .nil)) t2⟩
  exact q σ _ (s13.kp.trans k2) F2
theorem rs_put (c : Ctx X) {i : Nat} {x : Str} {p1 p2 : Pos} {k : Expr} {fk : RE D} (hN : X.N[i]? = some x) (hv : Vis X.env.scope x) (hd0 : (x == ("__debug__" : Str)) = false) (hcd : (x == ("__classdict__" : Str)) = false) (he : PE X e (tE (pX X) X.K fa)) (hk : PE X k (tE (pX X) X.K fk)) (hs : swapsWith e (some (.Subscript (.Name x p1) k p2)) pos.line X.env = pure false) :
    PS X (.Assign [.Subscript (.Name x p1) k p2] e pos) (tS (pX X) X.K H0 fun ρ => (ρ.own i).bind fun x => (fa ρ).bind fun d => (fk ρ).bind fun y => (dputD T x y d).map fun z => .nx (ρ.set i (.ow z))) := by
  have hu := c.hu
  refine ⟨fun pins s σ H E I ⟨ρ, o, F, hf, q⟩ => ?_⟩
  obtain ⟨x, e1, hf⟩ := bnd hf
  obtain ⟨d, e2, hf⟩ := bnd hf
  obtain ⟨y, e3, hf⟩ := bnd hf
  obtain ⟨z, e4, e5⟩ := mpd hf
  subst e5
  obtain ⟨a, ha, ow⟩ := F.env.own e1
  obtain ⟨kvs, qk, ex, e6, ez, hl⟩ := dputD_eq e4
  subst ex ez
  refine wpAny_Assign_Subscript (thn (he.run pins s σ H (fun v H1 => Same H H1 ∧ Rp (pX X) X.K H1 d v) I ⟨ρ, d, F.env, e2, fun v H1 s1 r1 => ⟨s1, r1⟩⟩) fun r s1 ⟨v, H1, I1, rv, sm1, r1⟩ => thn ((pe_var hN hv hd0 hcd).run pins s1 σ H1 (fun v H2 => v = .ref a ∧ H2 = H1) I1 ⟨_, ha, rfl, rfl⟩) fun u s2 ⟨w, H2, I2, rw', ew, eH⟩ =>
    thn (hk.run pins s2 σ H2 (fun v H3 => Same H2 H3 ∧ Rp (pX X) X.K H3 y v) I2 ⟨ρ, y, by rw [eH]; exact F.env.same sm1, e3, fun v H1 s1 r1 => ⟨s1, r1⟩⟩) fun iv s3 ⟨yk, H3, I3, ry, sm3, r3⟩ => ?_) hs
  subst ew eH
  obtain rfl : u = Value.ref a := rw'
  have sm := sm1.trans sm3
  have F3 := F.up sm
  have ow3 := ow.same sm
  have r1' := Rp.keep sm3.kp _ _ r1
  obtain ⟨es, h1, h2, h3⟩ := ow3
  refine dict_setItem (T := T) c I3 ⟨es, h1, h2, h3⟩ e6 ry rv r3 r1' hl fun s4 es4 I4 d4 => ?_
  obtain ⟨es5, g1, g2, g3⟩ := d4
  obtain ⟨F4, k4⟩ := Fr.own_set (o := rawO a es4) (d' := .dict (putD T kvs y qk d)) F3 e1 ha ⟨es5, g1, g2, g3⟩
  exact ⟨σ, _, I4, q σ _ (sm.kp.trans k4) F4⟩
/-! plain ones -/
theorem rs_ret (he : PE X e (tE (pX X) X.K fa)) : PS X (.Return (some e) pos) (tS (pX X) X.K H0 fun ρ => (fa ρ).map Out.rt) := PSwk (ps_ret he) fun E σ H ⟨ρ, o, F, hf, q⟩ => by
  obtain ⟨d, e1, e2⟩ := mpd hf
  subst e2
  exact ⟨ρ, d, F.env, e1, fun v H1 s1 r1 => q v H1 s1.kp (F.stay.up s1) r1⟩
theorem rs_retN : PS X (.Return none pos) (tS (pX X) X.K H0 fun _ => some (.rt .none)) := PSwk ps_retN fun E σ H ⟨ρ, o, F, hf, q⟩ => by
  cases hf
  exact q .non H (Kp.refl H) F.stay (by simp only [Rp])
theorem rs_ex (he : PE X e (tE (pX X) X.K fa)) (hs : swapsWith e none pos.line X.env = pure false) : PS X (.Expr e pos) (tS (pX X) X.K H0 fun ρ => (fa ρ).map fun _ => .nx ρ) := PSwk (ps_expr he hs) fun E σ H ⟨ρ, o, F, hf, q⟩ => by
  obtain ⟨d, e1, e2⟩ := mpd hf
  subst e2
  exact ⟨ρ, d, F.env, e1, fun v H1 s1 r1 => q σ H1 s1.kp (F.up s1)⟩
theorem rs_raise {st : Stmt} : PS X st (tS (pX X) X.K H0 fun _ => none) := PSwk ps_never fun E σ H ⟨ρ, o, F, hf, q⟩ => by cases hf
theorem rs_pass : PS X (.Pass pos) (tS (pX X) X.K H0 fun ρ => some (.nx ρ)) := PSwk ps_pass fun E σ H ⟨ρ, o, F, hf, q⟩ => by
  cases hf
  exact q σ H (Kp.refl H) F
theorem rs_brk : PS X (.Break pos) (tS (pX X) X.K H0 fun ρ => some (.bk ρ)) := PSwk ps_break fun E σ H ⟨ρ, o, F, hf, q⟩ => by
  cases hf
  exact q σ H (Kp.refl H) F
theorem rs_cont : PS X (.Continue pos) (tS (pX X) X.K H0 fun ρ => some (.ct ρ)) := PSwk ps_continue fun E σ H ⟨ρ, o, F, hf, q⟩ => by
  cases hf
  exact q σ H (Kp.refl H) F
theorem rs_ife {t : Expr} {a b : List Stmt} {ft : RE D} {f1 f2 : En → Option Out} (ht : PT X t (tT (pX X) X.K fun ρ => asB (ft ρ))) (ha : PSs X a (tS (pX X) X.K H0 f1)) (hb : PSs X b (tS (pX X) X.K H0 f2)) : PS X (.If t a b pos) (tS (pX X) X.K H0 fun ρ => (asB (ft ρ)).bind fun t => if t = true then f1 ρ else f2 ρ) := PSwk (ps_if ht ha hb) fun E σ H ⟨ρ, o, F, hf, q⟩ => by
  obtain ⟨x, e1, hf⟩ := bnd hf
  refine ⟨ρ, x, F.env, e1, fun H1 s1 => ?_⟩
  cases x with
  | true => exact ⟨ρ, o, F.up s1, hf, q.mono s1.kp⟩
  | false => exact ⟨ρ, o, F.up s1, hf, q.mono s1.kp⟩
theorem rss_nil : PSs X [] (tS (pX X) X.K H0 fun ρ => some (.nx ρ)) := PSswk pss_nil fun E σ H ⟨ρ, o, F, hf, q⟩ => by
  cases hf
  exact q σ H (Kp.refl H) F
def thenO (g : En → Option Out) : Out → Option Out
  | .nx ρ1 => g ρ1
  | r => some r
theorem rss_cons {st : Stmt} {r : List Stmt} {f g : En → Option Out} (h1 : PS X st (tS (pX X) X.K H0 f)) (h2 : PSs X r (tS (pX X) X.K H0 g)) : PSs X (st :: r) (tS (pX X) X.K H0 fun ρ => (f ρ).bind (thenO g)) := PSswk (pss_cons h1 h2) fun E σ H ⟨ρ, o, F, hf, q⟩ => by
  obtain ⟨o1, e1, hf⟩ := bnd hf
  refine ⟨ρ, o1, F, e1, ?_⟩
  cases o1 with
  | nx ρ1 => exact fun σ' H' k' F' => ⟨ρ1, o, F', hf, q.mono k'⟩
  | rt d => cases hf; exact q
  | bk ρ1 => cases hf; exact q
  | ct ρ1 => cases hf; exact q
/-! loops -/
def loopO (k : En → Option Out) : Out → Option Out
  | .nx ρ1 => k ρ1
  | .ct ρ1 => k ρ1
  | .bk ρ1 => some (.nx ρ1)
  | .rt x => some (.rt x)
theorem forL_cons (step : D → En → Option Out) (d : D) (ds : List D) (ρ : En) : forL step (d :: ds) ρ = (step d ρ).bind (loopO (forL step ds)) := by
  rfl
theorem rs_for (c : Ctx X) {tg iter : Expr} {body : List Stmt} {P : Pat} {y : Bool} {fi : RE (List D)} {fb : En → Option Out} (hp : PassesOwn (model X.prog X.w) X.A X.env X.xe) (hi : PI X tg iter (tI (pX X) X.K fi y)) (hg : PG X tg (tZ (pX X) X.K y P)) (hb : PSs X body (tS (pX X) X.K H0 fb)) (hs : ∀ x, foldedSetIterable iter X.env x = pure x) :
    PS X (.For tg iter body [] pos) (tS (pX X) X.K H0 fun ρ => (fi ρ).bind fun ds => forL (fun d ρ1 => (bindP P d ρ1).bind fb) ds ρ) := by
  refine PSwk (ps_for hp c.calm hi hg hb hs) fun E σ H ⟨ρ, o, F, hf, q⟩ => ?_
  obtain ⟨ds, e1, hf⟩ := bnd hf
  refine ⟨ρ, ds, F.env, e1, fun J H1 s1 g => ?_⟩
  obtain ⟨sz, G, Y, wk, hG, hY⟩ := g
  refine for_it wk (fun i σ2 H2 => (Kp H1 H2 ∧ ∃ ρ2, Fr (pX X) X.K H0 H2 ρ2 σ2 ∧ forL (fun d ρ1 => (bindP P d ρ1).bind fb) (ds.drop i) ρ2 = some o)) ?_ ?_ ?_ ?_
  · exact ⟨Kp.refl H1, ρ, F.up s1, hf⟩
  · exact fun i σ2 H2 _ ⟨k2, _⟩ => hG H2 k2
  · intro i x σ2 H2 H3 hi' ⟨k2, ρ2, F2, hf2⟩ hy
    have ed : ds[i]? = some ds[i] := List.getElem?_eq_getElem hi'
    obtain ⟨s3, yd⟩ := hY i H2 x H3 _ k2 ed hy
    rw [List.drop_eq_getElem_cons hi', forL_cons] at hf2
    obtain ⟨o1, b1, b2⟩ := bnd hf2
    obtain ⟨ρ3, b3, b4⟩ := bnd b1
    have F3 := F2.up s3
    refine ⟨ρ2, ds[i], ρ3, F3.env, yd, b3, fun σ4 E4 ow _ => ⟨ρ3, o1, F3.sub E4 ow, b4, ?_⟩⟩
    have k13 : Kp H1 H3 := k2.trans s3.kp
    cases o1 with
    | nx ρ5 => exact fun σ5 H5 k5 F5 => ⟨k13.trans k5, ρ5, F5, b2⟩
    | ct ρ5 => exact fun σ5 H5 k5 F5 => ⟨k13.trans k5, ρ5, F5, b2⟩
    | bk ρ5 =>
      cases b2
      exact fun σ5 H5 k5 F5 => q σ5 H5 ((s1.kp.trans k13).trans k5) F5
    | rt d =>
      cases b2
      exact fun v H5 k5 sm r5 => q v H5 ((s1.kp.trans k13).trans k5) sm r5
  · rintro σ2 H2 ⟨k2, ρ2, F2, hf2⟩
    rw [List.drop_length] at hf2
    simp only [forL, Option.some.injEq] at hf2
    subst hf2
    exact q σ2 H2 (s1.kp.trans k2) F2
theorem whL_succ (t : En → Option Bool) (b : En → Option Out) (n : Nat) (ρ : En) : whL t b (n + 1) ρ = (t ρ).bind fun x => if x = true then (b ρ).bind (loopO (whL t b n)) else some (.nx ρ) := by
  rfl
theorem rs_whl {t : Expr} {body : List Stmt} {ft : RE D} {fb : En → Option Out} {n : Nat} (hp : PassesOwn (model X.prog X.w) X.A X.env X.xe) (ht : PT X t (tT (pX X) X.K fun ρ => asB (ft ρ))) (hb : PSs X body (tS (pX X) X.K H0 fb)) :
    PS X (.While t body [] pos) (tS (pX X) X.K H0 fun ρ => whL (fun ρ1 => asB (ft ρ1)) fb n ρ) := by
  refine PSwk (ps_while hp ht hb) fun E σ H ⟨ρ, o, F, hf, q⟩ => ?_
  refine ⟨fun m σ2 H2 => Kp H H2 ∧ ∃ ρ2, Fr (pX X) X.K H0 H2 ρ2 σ2 ∧ whL (fun ρ1 => asB (ft ρ1)) fb m ρ2 = some o, ⟨n, Kp.refl H, ρ, F, hf⟩, fun m σ2 H2 ⟨k2, ρ2, F2, hf2⟩ => ?_⟩
  cases m with
  | zero => simp [whL] at hf2
  | succ m =>
    rw [whL_succ] at hf2
    obtain ⟨x, e1, hf2⟩ := bnd hf2
    refine ⟨ρ2, x, F2.env, e1, fun H3 s3 => ?_⟩
    cases x with
    | false =>
      cases hf2
      exact q σ2 H3 (k2.trans s3.kp) (F2.up s3)
    | true =>
      obtain ⟨o1, b1, b2⟩ := bnd hf2
      refine ⟨fun σ' H' => Kp H H' ∧ ∃ ρ', Fr (pX X) X.K H0 H' ρ' σ' ∧ whL (fun ρ1 => asB (ft ρ1)) fb m ρ' = some o, fun σ' H' h' => ⟨m, Nat.lt_succ_self m, h'⟩, ρ2, o1, F2.up s3, b1, ?_⟩
      have k13 : Kp H H3 := k2.trans s3.kp
      cases o1 with
      | nx ρ5 => exact fun σ5 H5 k5 F5 => ⟨k13.trans k5, ρ5, F5, b2⟩
      | ct ρ5 => exact fun σ5 H5 k5 F5 => ⟨k13.trans k5, ρ5, F5, b2⟩
      | bk ρ5 =>
        cases b2
        exact fun σ5 H5 k5 F5 => q σ5 H5 (k13.trans k5) F5
      | rt d =>
        cases b2
        exact fun v H5 k5 sm r5 => q v H5 (k13.trans k5) sm r5
/-! a list or dict of the def's own is given out of hand -/
theorem rs_fz {st : Stmt} {f : En → Option Out} {i : Nat} (h : PS X st (tS (pX X) X.K H0 f)) : PS X st (tS (pX X) X.K H0 fun ρ => f (freeze ρ i)) := by
  refine ⟨fun pins s σ H E I ⟨ρ, o, F, hf, q⟩ => ?_⟩
  have hf : f (freeze ρ i) = some o := hf
  unfold freeze at hf
  split at hf
  · rename_i d e
    have ho : ρ.own i = some d := by unfold En.own; rw [e]
    obtain ⟨fp, hfp⟩ := F.fp
    obtain ⟨a, ha, _⟩ := F.env.own ho
    obtain ⟨a', e1, e2, ow⟩ := hfp.is i _ _ e rfl ha
    cases e1
    obtain ⟨ob, h1, mu⟩ := ow_some ow
    obtain ⟨od, I2⟩ := I.lock h1 mu
    have kp : Kp H (upd H a (.frz od ob)) := kp_upd h1 mu
    have rp : Rp (pX X) X.K (upd H a (.frz od ob)) d (.ref a) := by
      cases d with
      | list ds =>
        obtain ⟨xs, g1, g2⟩ := ow
        rw [h1] at g1
        cases g1
        exact rpLst.mpr ⟨a, xs, rfl, .inl ⟨od, upd_same⟩, RpA.keep kp _ _ g2⟩
      | dict kvs =>
        obtain ⟨es, g1, g2, g3⟩ := ow
        rw [h1] at g1
        cases g1
        simp only [Rp]
        exact ⟨a, rfl, .inl ⟨od, es, upd_same, RpE.keep kp _ _ g2, g3⟩⟩
      | _ => exact ow.elim
    have F2 := F.chg hfp (s' := .fz d) (G := []) e rfl ha kp (fun b hb u eb => by
      rw [e2, List.mem_singleton] at hb
      rw [upd_ne hb]
      exact eb) ⟨_, rfl, rp⟩ (fun z => by cases z)
    exact h.run pins s σ _ E I2 ⟨_, o, F2, hf, q.mono kp⟩
  · rename_i t e
    obtain ⟨fp, hfp⟩ := F.fp
    obtain ⟨v, hv⟩ := own_val F.env e rfl
    have ow := hfp.is i _ _ e rfl hv
    obtain ⟨H2, I2, lk, rp⟩ := lockT t v (fp i) H I ow (hfp.new i _ e rfl).1
    have F2 := F.chg hfp (s' := .fz t.toD) (G := []) e rfl hv lk.kp lk.kpO ⟨_, rfl, rp⟩ (fun z => by cases z)
    exact h.run pins s σ _ E I2 ⟨_, o, F2, hf, q.mono lk.kp⟩
  · exact h.run pins s σ H E I ⟨ρ, o, F, hf, q⟩
end
end PL


set_option Elab.async false
set_option linter.all false
set_option maxRecDepth 100000
/-! PLua: statements that write into a tree. -/
namespace PL
open PySem PySem.Spec PyProof.Rows L2
theorem kid_set : ∀ (t : Od) (j : Nat) (u w : Od), t.kids[j]? = some w → (t.setKid j u).kids[j]? = some u
  | .fz _, j, u, w, h => by simp [Od.kids] at h
  | .lst xs, j, u, w, h => by simp only [Od.kids, Od.setKid] at h ⊢; exact List.getElem?_set_self (List.getElem?_eq_some_iff.mp h).1
  | .dct ks xs, j, u, w, h => by simp only [Od.kids, Od.setKid] at h ⊢; exact List.getElem?_set_self (List.getElem?_eq_some_iff.mp h).1
  | .obj c ns xs, j, u, w, h => by simp only [Od.kids, Od.setKid] at h ⊢; exact List.getElem?_set_self (List.getElem?_eq_some_iff.mp h).1
theorem set_set (t : Od) (j : Nat) (u w : Od) : (t.setKid j u).setKid j w = t.setKid j w := by
  cases t <;> simp [Od.setKid]
theorem set_self (t : Od) (j : Nat) (u : Od) (h : t.kids[j]? = some u) : t.setKid j u = t := by
  cases t <;> simp only [Od.kids, Od.setKid] at h ⊢
  all_goals
    obtain ⟨hl, e⟩ := List.getElem?_eq_some_iff.mp h
    rw [← e, List.set_getElem_self hl]
theorem at_put : ∀ (t : Od) (π : List Nat) (u w : Od), t.at_ π = some w → (t.put_ π u).at_ π = some u
  | t, [], u, w, _ => by simp [Od.put_, Od.at_]
  | t, j :: π, u, w, h => by
    simp only [Od.at_] at h
    obtain ⟨k, e1, e2⟩ := Option.bind_eq_some_iff.mp h
    simp only [Od.put_, e1, Od.at_]
    rw [kid_set t j _ k e1]
    exact at_put k π u w e2
theorem put_put : ∀ (t : Od) (π : List Nat) (u w x : Od), t.at_ π = some w → (t.put_ π u).put_ π x = t.put_ π x
  | t, [], u, w, x, _ => by simp [Od.put_]
  | t, j :: π, u, w, x, h => by
    simp only [Od.at_] at h
    obtain ⟨k, e1, e2⟩ := Option.bind_eq_some_iff.mp h
    simp only [Od.put_, e1]
    rw [kid_set t j _ k e1]
    simp only
    rw [set_set, put_put k π u w x e2]
theorem put_self : ∀ (t : Od) (π : List Nat) (w : Od), t.at_ π = some w → t.put_ π w = t
  | t, [], w, h => by
    simp only [Od.at_, Option.some.injEq] at h
    simp [Od.put_, h]
  | t, j :: π, w, h => by
    simp only [Od.at_] at h
    obtain ⟨k, e1, e2⟩ := Option.bind_eq_some_iff.mp h
    simp only [Od.put_, e1]
    rw [put_self k π w e2, set_self t j k e1]
section
variable {p : PrW} {K : PySem.W.Frag} {H H' : Hp}
/-- a write at a tree's place -/
theorem Fr.wrt {S : Bg} {ρ : En} {σ : L2.St} {fp : Nat → List Addr} {i : Nat} {t0 t : Od} {v0 v : V} {π : List Nat} (F : Fr p K S H ρ σ) (h : Fps p K S H ρ σ fp) (e : ρ[i]? = some (.tr t0)) (ev : σ[i]? = some (some v0)) (ht : t0.at_ π = some t) (foc : Foc p K H t0 v0 (fp i) π t v) :
    ∃ F1, OwT p K H t v F1 ∧ F1.Nodup ∧ ∀ (H' : Hp) (t' : Od) (F1' : List Addr), Kp H H' → (∀ b, b ∉ F1 → ∀ o, H b = some o → H' b = some o) → OwT p K H' t' v F1' → F1'.Nodup → (∀ b ∈ F1', b ∈ F1 ∨ H b = none) →
      ∃ fp', Fps p K S H' (ρ.set i (.tr (t0.put_ π t'))) σ fp' ∧ Fr p K S H' (ρ.set i (.tr (t0.put_ π t'))) σ ∧ ∃ A B, fp' i = A ++ F1' ++ B ∧ ∀ (H2 : Hp) (t2 : Od) (F2 : List Addr), Kp H' H2 → (∀ b ∈ A ++ B, ∀ o, H' b = some o → H2 b = some o) → OwT p K H2 t2 v F2 → OwT p K H2 ((t0.put_ π t').put_ π t2) v0 (A ++ F2 ++ B) := by
  obtain ⟨A, F1, B, eF, ow, wr⟩ := foc.it
  have nd := (h.new i _ e rfl).1
  rw [eF] at nd
  obtain ⟨n1, nB, dB⟩ := List.nodup_append.mp nd
  obtain ⟨nA, nF, dA⟩ := List.nodup_append.mp n1
  have root : OwT p K H t0 v0 (fp i) := h.is i _ _ e rfl ev
  have mm : ∀ b ∈ fp i, H b ≠ none := fun b hb z => by
    obtain ⟨o, ho⟩ := root.isat hb
    rw [z] at ho
    cases ho
  have inA : ∀ b ∈ A, b ∈ fp i := fun b hb => by rw [eF]; simp [hb]
  have inB : ∀ b ∈ B, b ∈ fp i := fun b hb => by rw [eF]; simp [hb]
  have inF : ∀ b ∈ F1, b ∈ fp i := fun b hb => by rw [eF]; simp [hb]
  refine ⟨F1, ow, nF, fun H' t' F1' k off ow' nd' mem => ?_⟩
  have offAB : ∀ b ∈ A ++ B, b ∉ F1 := fun b hb hf => by
    rcases List.mem_append.mp hb with hb | hb
    · exact dA b hb b hf rfl
    · exact dB b (List.mem_append_right _ hf) b hb rfl
  have disj : ∀ b ∈ F1', b ∉ A ++ B := fun b hb hab => by
    rcases mem b hb with z | z
    · exact offAB b hab z
    · rcases List.mem_append.mp hab with y | y
      · exact mm b (inA b y) z
      · exact mm b (inB b y) z
  have fAB : ∀ b ∈ A ++ B, ∀ o, H b = some o → H' b = some o := fun b hb o eo => off b (offAB b hb) o eo
  have owN := wr H' t' F1' k fAB ow'
  have ndN : (A ++ F1' ++ B).Nodup := by
    refine List.nodup_append.mpr ⟨List.nodup_append.mpr ⟨nA, nd', fun a ha b hb e => ?_⟩, nB, fun a ha b hb e => ?_⟩
    · exact disj b hb (by rw [← e]; simp [ha])
    · rcases List.mem_append.mp ha with ha | ha
      · exact dB a (List.mem_append_left _ ha) b hb e
      · exact disj a ha (by rw [e]; simp [hb])
  have memN : ∀ b ∈ A ++ F1' ++ B, b ∈ fp i ∨ H b = none := fun b hb => by
    rcases List.mem_append.mp hb with hb | hb
    · rcases List.mem_append.mp hb with hb | hb
      · exact .inl (inA b hb)
      · rcases mem b hb with q | q
        · exact .inl (inF b q)
        · exact .inr q
    · exact .inl (inB b hb)
  obtain ⟨x, y, z⟩ := F.chg3 h (s' := .tr (t0.put_ π t')) (G := A ++ F1' ++ B) e rfl ev k (fun b hb o eo => off b (fun hf => hb (inF b hf)) o eo) ⟨v0, _, rfl, owN⟩ fun _ => ⟨owN, ndN, memN⟩
  · refine ⟨_, z, ⟨x, y, _, z⟩, ?_⟩
    simp only [if_true]
    refine ⟨A, B, rfl, fun H2 t2 F2 k2 f2 o2 => ?_⟩
    rw [put_put t0 π t' t t2 ht]
    exact wr H2 t2 F2 (k.trans k2) (fun b hb o eo => f2 b hb o (fAB b hb o eo)) o2
theorem putT_eq {ρ : En} {q : Pl} {t0 u : Od} (h : ρ.tree q.1 = some t0) : ρ.putT q u = ρ.set q.1 (.tr (t0.put_ q.2 u)) := by
  unfold En.putT
  rw [h]
theorem sub_root {ρ : En} {q : Pl} {t : Od} (h : ρ.sub q = some t) : ∃ t0, ρ.tree q.1 = some t0 ∧ t0.at_ q.2 = some t := by
  unfold En.sub at h
  cases e : ρ.tree q.1 with
  | none => rw [e] at h; cases h
  | some t0 => rw [e] at h; exact ⟨t0, rfl, h⟩
theorem pappD_eq {t u w : Od} (h : pappD t u = some w) : ∃ xs, t = .lst xs ∧ w = .lst (xs ++ [u]) ∧ xs.length < sizeLine := by
  cases t <;> simp only [pappD] at h <;> try (cases h; done)
  split at h
  · rename_i hz
    cases h
    have z := of_decide_eq_true hz
    exact ⟨_, rfl, rfl, by omega⟩
  · cases h
/-- an owned list's end grows -/
theorem OwT.app {xs : List Od} {v : V} {F1 : List Addr} {w : V} {d : D} (h : OwT p K H (.lst xs) v F1) (r : Rp p K H d w) (nd : F1.Nodup) : ∃ a vs, v = .ref a ∧ H a = some (.lst vs) ∧ vs.length = xs.length ∧ Kp H (upd H a (.lst (vs ++ [w]))) ∧ (∀ b, b ∉ F1 → ∀ o, H b = some o → upd H a (.lst (vs ++ [w])) b = some o) ∧ OwT p K (upd H a (.lst (vs ++ [w]))) (.lst (xs ++ [.fz d])) v F1 := by
  simp only [OwT] at h
  obtain ⟨a, vs, G, e1, e2, e3, e4⟩ := h
  subst e1 e2
  have kp : Kp H (upd H a (.lst (vs ++ [w]))) := kp_upd e3 True.intro
  have nn := (List.nodup_cons.mp nd).1
  refine ⟨a, vs, rfl, e3, e4.len, kp, fun b hb o eo => ?_, ?_⟩
  · rw [List.mem_cons, not_or] at hb
    rw [upd_ne hb.1]
    exact eo
  · simp only [OwT]
    refine ⟨a, vs ++ [w], G, rfl, rfl, upd_same, ?_⟩
    have z := OwA.frame kp xs vs G (fun b hb o eo => by
      have ne : b ≠ a := fun e => nn (e ▸ hb)
      rw [upd_ne ne]; exact eo) e4
    have y := OwA.snoc (t := .fz d) (v := w) (G := []) z (by simp only [OwT]; exact ⟨trivial, Rp.keep kp _ _ r⟩)
    simpa using y
end
section
variable {X : Cx} {H0 : Bg} {pos : Pos} {e pth : Expr} {fa : RE D} {T : List D} {fp : En → Option Pl}
theorem rs_papp {apos cpos : Pos} (hp : PE X pth (tPth (pX X) X.K fp)) (hbase : attributeBase pth "append" X.env (eval pth X.env) = eval pth X.env) (he : PE X e (tE (pX X) X.K fa)) (hl : apos.endLine = cpos.line) (hst : starEach [e] X.env = (false, eval e X.env) :: starEach [] X.env) :
    PS X (.Expr (.Call (.Attribute pth "append" apos) [e] [] cpos) pos) (tS (pX X) X.K H0 fun ρ => (fp ρ).bind fun q => (ρ.sub q).bind fun t => (fa ρ).bind fun d => (pappD t (.fz d)).map fun u => .nx (ρ.putT q u)) := by
  have pe := pe_bm (apos := apos) (cpos := cpos) PySem.F.plainAttrs_list PySem.F.slot_list_append PySem.F.type_list_append mt_append hp (pa_cons he pa_nil hst) hbase (by rw [hst]; rfl) (by rw [hl]; simp) hst rfl
  refine PSwk (ps_expr pe) fun E σ H ⟨ρ, o, F, hf, k⟩ => ?_
  obtain ⟨q, e1, hf⟩ := bnd hf
  obtain ⟨t, e2, hf⟩ := bnd hf
  obtain ⟨d, e3, hf⟩ := bnd hf
  obtain ⟨u, e4, e5⟩ := mpd hf
  subst e5
  obtain ⟨t0, ht, hat⟩ := sub_root e2
  obtain ⟨xs, ex, eu, hz⟩ := pappD_eq e4
  subst ex eu
  obtain ⟨fpt, hfp⟩ := F.fp
  obtain ⟨v0, hv0⟩ := own_val F.env (tree_at ht) rfl
  have root : OwT (pX X) X.K H t0 v0 (fpt q.1) := hfp.is q.1 _ _ (tree_at ht) rfl hv0
  refine ⟨ρ, q, t0, v0, fpt q.1, _, F.env, e1, ht, hv0, root, hat, fun v H1 s1 foc => ⟨?_, ρ, d, F.env.same s1, e3, fun w H2 s2 r2 => ?_⟩⟩
  · obtain ⟨A, F1, B, _, h5, _⟩ := foc.it
    simp only [OwT] at h5
    obtain ⟨a, vs, G, ev, _, h6, _⟩ := h5
    rw [ev]
    exact .inl ⟨rfl, _, SqL.of h6⟩
  · have s12 := s1.trans s2
    obtain ⟨F1, ow, n1, wr⟩ := (F.up s12).wrt (hfp.up s12) (tree_at ht) hv0 hat (foc.same s2)
    obtain ⟨a, vs, ev, h1, hl2, kp, off, ow2⟩ := ow.app r2 n1
    obtain ⟨fp', _, F3, _⟩ := wr _ _ F1 kp off ow2 n1 fun b hb => .inl hb
    refine ⟨a, vs, w, ev, rfl, h1, by rw [hl2]; exact hz, ?_⟩
    rw [← putT_eq ht] at F3
    exact k σ _ (s12.kp.trans kp) F3
end
end PL


set_option Elab.async false
set_option linter.all false
set_option maxRecDepth 100000
/-! PLub: d.setdefault(k, []).append(x) in a tree. -/
namespace PL
open PySem PySem.Spec PyProof.Rows L2
section
variable {p : PrW} {K : PySem.W.Frag} {H H' : Hp}
theorem KeyE.snoc : ∀ {ks : List D} {l : List DictEntry} {k : D} {u : V} {q : NestedKey} {e : DictEntry}, KeyE p K H ks l → RelV u e.key → Rp p K H k u → kdOf [] k = some q → e.hash = q.hash p.w → KeyE p K H (ks ++ [k]) (l ++ [e])
  | [], l, k, u, q, e, h, h1, h2, h3, h4 => by
    have h : l = [] := h
    subst h
    exact ⟨e, [], u, q, rfl, h1, h2, h3, h4, rfl⟩
  | k0 :: ks, l, k, u, q, e, h, h1, h2, h3, h4 => by
    obtain ⟨e0, l', u', q', e1, e2, e3, e4, e5, e6⟩ := h
    subst e1
    exact ⟨e0, _, u', q', rfl, e2, e3, e4, e5, KeyE.snoc e6 h1 h2 h3 h4⟩
theorem ValE.snoc : ∀ {vs : List V} {l : List DictEntry} {v : V} {e : DictEntry}, ValE vs l → RelV v e.val → ValE (vs ++ [v]) (l ++ [e])
  | [], l, v, e, h, h1 => by
    have h : l = [] := h
    subst h
    exact ⟨e, [], rfl, h1, rfl⟩
  | v0 :: vs, l, v, e, h, h1 => by
    obtain ⟨e0, l', e1, e2, e3⟩ := h
    subst e1
    exact ⟨e0, _, rfl, e2, ValE.snoc e3 h1⟩
/-- an owned dict's end grows -/
theorem OwT.dsnoc {ks : List D} {xs : List Od} {v : V} {F1 G : List Addr} {a : Addr} {es : Array DictEntry} {vs : List V} {k : D} {q : NestedKey} {u z : V} {t : Od} {e : DictEntry} {nks : List NestedKey}
    (hv : v = .ref a) (hF : F1 = a :: G) (hs : H a = some (rawO a es)) (hk : KeyE p K H ks es.toList) (hn : NdK ks) (hval : ValE vs es.toList) (hA : OwA p K H xs vs G) (nd : F1.Nodup) {G2 : List Addr} (ht : OwT p K H t z G2) (ha : a ∉ G2)
    (h1 : RelV u e.key) (h2 : Rp p K H k u) (h3 : kdOf [] k = some q) (h4 : e.hash = q.hash p.w) (h5 : RelV z e.val) (h6 : KsOf ks nks) (h7 : q ∉ nks) :
    Kp H (upd H a (rawO a (es.push e))) ∧ (∀ b, b ∉ F1 → ∀ o, H b = some o → upd H a (rawO a (es.push e)) b = some o) ∧ OwT p K (upd H a (rawO a (es.push e))) (.dct (ks ++ [k]) (xs ++ [t])) v (F1 ++ G2) ∧
      KeyE p K (upd H a (rawO a (es.push e))) (ks ++ [k]) (es.push e).toList ∧ NdK (ks ++ [k]) ∧ ValE (vs ++ [z]) (es.push e).toList ∧ OwA p K (upd H a (rawO a (es.push e))) (xs ++ [t]) (vs ++ [z]) (G ++ G2) := by
  subst hv hF
  have kp : Kp H (upd H a (rawO a (es.push e))) := kp_raw hs
  have nn := (List.nodup_cons.mp nd).1
  refine ⟨kp, fun b hb o eo => ?_, ?_⟩
  · rw [List.mem_cons, not_or] at hb
    rw [upd_ne hb.1]
    exact eo
  · have g1 : KeyE p K (upd H a (rawO a (es.push e))) (ks ++ [k]) (es.push e).toList := by
      rw [Array.toList_push]
      exact KeyE.keep kp (hk.snoc h1 h2 h3 h4)
    have g2 : NdK (ks ++ [k]) := ndK_snoc h6 hn h3 h7
    have g3 : ValE (vs ++ [z]) (es.push e).toList := by
      rw [Array.toList_push]
      exact hval.snoc h5
    have g4 : OwA p K (upd H a (rawO a (es.push e))) (xs ++ [t]) (vs ++ [z]) (G ++ G2) := by
      refine OwA.snoc (OwA.frame kp xs vs G (fun b hb o eo => ?_) hA) (OwT.frame kp t z G2 (fun b hb o eo => ?_) ht)
      · have ne : b ≠ a := fun e => nn (e ▸ hb)
        rw [upd_ne ne]; exact eo
      · have ne : b ≠ a := fun e => ha (e ▸ hb)
        rw [upd_ne ne]; exact eo
    refine ⟨?_, g1, g2, g3, g4⟩
    simp only [OwT]
    exact ⟨a, es.push e, vs ++ [z], G ++ G2, rfl, by simp, upd_same, g1, g2, g3, g4⟩
/-- a step into a dict whose parts are known -/
theorem foc_dct {t0 : Od} {v0 v : V} {π : List Nat} {A B : List Addr} {ks : List D} {xs : List Od} {a : Addr} {es : Array DictEntry} {vs : List V} {G : List Addr} {j : Nat} {u : Od} (hat : t0.at_ π = some (.dct ks xs)) (ev : v = .ref a) (h1 : H a = some (rawO a es)) (h2 : KeyE p K H ks es.toList) (h3 : NdK ks) (h4 : ValE vs es.toList) (hA : OwA p K H xs vs G)
    (wr : ∀ (H2 : Hp) (t2 : Od) (F2 : List Addr), Kp H H2 → (∀ b ∈ A ++ B, ∀ o, H b = some o → H2 b = some o) → OwT p K H2 t2 v F2 → OwT p K H2 (t0.put_ π t2) v0 (A ++ F2 ++ B)) (hj : xs[j]? = some u) : ∃ w, vs[j]? = some w ∧ Foc p K H t0 v0 (A ++ (a :: G) ++ B) (π ++ [j]) u w := by
  obtain ⟨w, A2, F2, B2, g1, g2, g3, g4⟩ := hA.focus hj
  refine ⟨w, g1, A ++ a :: A2, F2, B2 ++ B, ?_, g3, fun H' t' F' k f h' => ?_⟩
  · rw [g2]; simp
  · rw [put_snoc t0 π _ j t' hat ⟨u, hj⟩]
    have z := g4 H' t' w F' k (fun b hb => f b (by rcases List.mem_append.mp hb with hb | hb <;> simp [hb])) h'
    have ew : vs.set j w = vs := by
      obtain ⟨hl, e9⟩ := List.getElem?_eq_some_iff.mp g1
      rw [← e9]
      exact List.set_getElem_self hl
    rw [ew] at z
    have y : OwT p K H' ((Od.dct ks xs).setKid j t') v (a :: (A2 ++ F' ++ B2)) := by
      simp only [Od.setKid, OwT]
      exact ⟨a, es, vs, _, ev, rfl, f a (by simp) _ h1, h2.keep k, h3, h4, z⟩
    have x := wr H' _ _ k (fun b hb => f b (by rcases List.mem_append.mp hb with hb | hb <;> simp [hb])) y
    simpa using x
end
section
variable {X : Cx} {H0 : Bg} {pos lp : Pos} {a b e pth : Expr} {fa fb : RE D} {T : List D} {fp : En → Option Pl}
/-- what d.setdefault(k, []) gives: the new list at p, put at the end, or what stands there -/
def Setd (X : Cx) (H : Hp) (l : Addr) (y : V) (k : D) (z : V) (Q : VK) : Prop := ∃ (es : Array DictEntry) (ks : List D) (nks : List NestedKey) (qk : NestedKey), H l = some (rawO l es) ∧ kdOf [] k = some qk ∧ KeyE (pX X) X.K H ks es.toList ∧ NdK ks ∧ KsOf ks nks ∧ es.size < sizeLine ∧
  (qk ∉ nks → ∀ e : DictEntry, RelV y e.key → RelV z e.val → e.hash = qk.hash X.w → Q z (upd H l (rawO l (es.push e)))) ∧ ∀ (j : Nat), nks[j]? = some qk → ∃ (e : DictEntry) (w : V), es[j]? = some e ∧ RelV w e.val ∧ Q w H
theorem setd_call (c : Ctx X) {pins : List (Addr × Obj)} {s : Shared} {σ : L2.St} {H : Hp} {Q : VK} {l : Addr} {k : D} {y z : V} {u r : Value} {E : Value → Shared → Prop} (I : Inv X pins σ H s) (ry : RelV y u) (rz : RelV z r) (hk : Rp (pX X) X.K H k y) (h : Setd X H l y k z Q) :
    wpAny (model X.prog X.w) X.A (call (.builtin "dict.setdefault") [.ref l, u, r]) (EP X pins σ Q) E s := by
  have hu := c.hu
  obtain ⟨es, ks, nks, qk, h1, h2, h3, h4, h5, h6, h7, h8⟩ := h
  obtain ⟨z1, z2, z3⟩ := raw_at I (.inl h1)
  refine GD.setd_raw (by omega) (rp_keyAt I hk ry h2) z3 z1 (h3.ents I h5) (h5.nodup h4) (by omega) (fun hn h' hr hs => ?_) fun j x hj hx => ?_
  · have he : ∃ o, h'.get? l = some o := let ⟨o, _, ho, _⟩ := hr; ⟨o, ho⟩
    exact ⟨z, _, d_write I (by rw [h1]; exact True.intro) hs he (rawO_ok z1 (by rw [Array.size_push]; omega) hr), rz, h7 hn _ ry rz rfl⟩
  · obtain ⟨e, w, g1, g2, g3⟩ := h8 j hj
    rw [hx] at g1
    cases g1
    exact ⟨w, H, I.tok _, g2, g3⟩
theorem setd_run (c : Ctx X) {apos : Pos} {td : TE} (ha : PE X a td) (hb : PE X b (tE (pX X) X.K fb)) (m : M2 X a "setdefault" apos b (.List [] lp) pos) {pins : List (Addr × Obj)} {s : Shared} {σ : L2.St} {H : Hp} {Q : VK} (I : Inv X pins σ H s)
    (h : td σ H fun x H1 => ∃ l k ρ es, x = .ref l ∧ H1 l = some (rawO l es) ∧ EnvOk (pX X) X.K H1 ρ σ ∧ fb ρ = some k ∧ ∀ y H2 p, Same H1 H2 → Rp (pX X) X.K H2 k y → H2 p = none → Setd X (upd H2 p (.lst [])) l y k (.ref p) Q) :
    wpAny (model X.prog X.w) X.A (eval (.Call (.Attribute a "setdefault" apos) [b, .List [] lp] [] pos) X.env) (EP X pins σ Q) X.xe s := by
  refine wpAny_Call_method m.base m.few m.line PySem.F.plainAttrs_dict PySem.F.slot_dict_setdefault PySem.F.type_dict_setdefault (thn (ha.run pins s σ H _ I h) fun u s1 ⟨x, H1, I1, rx, l, k, ρ, es, ex, h1, E, e1, g⟩ => ?_)
  subst ex
  obtain rfl : u = Value.ref l := rx
  obtain ⟨z1, z2, o, ep, z3, z4, z5⟩ := raw_at I1 (.inl h1)
  refine ⟨⟨o, z3, z4.1⟩, no_dict z3 z4, ?_⟩
  rw [m.trees]
  refine Calls.callWith_builtin rfl (Calls.evalArgs_plain (Calls.spliced_cons (thn (hb.run pins s1 σ H1 (fun v H2 => Same H1 H2 ∧ Rp (pX X) X.K H2 k v) I1 ⟨ρ, k, E, e1, fun v H2 s2 r2 => ⟨s2, r2⟩⟩) fun iv s2 ⟨y, H2, I2, ry, sm2, r2⟩ =>
    Calls.spliced_cons (thn ((pe_lst (pos := lp) pa_nil).run pins s2 σ H2 (fun v H3 => ∃ p, v = .ref p ∧ H2 p = none ∧ H3 = upd H2 p (.lst [])) I2 ⟨Nat.zero_le _, fun p hp => ⟨p, rfl, hp, rfl⟩⟩) fun fv s3 ⟨w, H3, I3, rw', p, ew, hp, eH⟩ => Calls.spliced_nil ?_))))
  subst ew eH
  exact setd_call c I3 ry rw' (Rp.keep (same_new hp).kp _ _ r2) (g y H2 p sm2 r2 hp)
theorem sdD_eq {t u : Od} {k : D} {r : Nat × Od} (h : sdD T t k u = some r) : ∃ ks xs q, t = .dct ks xs ∧ kdOf T k = some q ∧ ks.length < sizeLine ∧ ((∃ j, (ks.findIdx? fun k' => decide (kdOf T k' = some q)) = some j ∧ r = (j, .dct ks xs)) ∨ ((ks.findIdx? fun k' => decide (kdOf T k' = some q)) = none ∧ r = (xs.length, .dct (ks ++ [k]) (xs ++ [u])))) := by
  cases t <;> simp only [sdD] at h <;> try (cases h; done)
  obtain ⟨q, e1, h⟩ := bnd h
  split at h
  · rename_i hz
    have z := of_decide_eq_true hz
    refine ⟨_, _, q, rfl, e1, by omega, ?_⟩
    split at h
    · rename_i j e
      cases h
      exact .inl ⟨j, e, rfl⟩
    · rename_i e
      cases h
      exact .inr ⟨e, rfl⟩
  · cases h
theorem ksOf_idx {ks : List D} {nks : List NestedKey} {q : NestedKey} (hk : KsOf ks nks) (nd : NdK ks) {j j' : Nat} (h : nks[j]? = some q) (h' : nks[j']? = some q) : j = j' := by
  have n := hk.nodup nd
  obtain ⟨a1, a2⟩ := List.getElem?_eq_some_iff.mp h
  obtain ⟨b1, b2⟩ := List.getElem?_eq_some_iff.mp h'
  exact (List.getElem_inj n).mp (a2.trans b2.symm)
theorem rs_sdapp (c : Ctx X) {ap1 cp1 ap2 cp2 : Pos} (hp : PE X pth (tPth (pX X) X.K fp)) (m : M2 X pth "setdefault" ap1 b (.List [] lp) cp1) (hb : PE X b (tE (pX X) X.K fb)) (he : PE X e (tE (pX X) X.K fa)) (hl : ap2.endLine = cp2.line) (hst : starEach [e] X.env = (false, eval e X.env) :: starEach [] X.env)
    (hbase : attributeBase (.Call (.Attribute pth "setdefault" ap1) [b, .List [] lp] [] cp1) "append" X.env (eval (.Call (.Attribute pth "setdefault" ap1) [b, .List [] lp] [] cp1) X.env) = eval (.Call (.Attribute pth "setdefault" ap1) [b, .List [] lp] [] cp1) X.env) :
    PS X (.Expr (.Call (.Attribute (.Call (.Attribute pth "setdefault" ap1) [b, .List [] lp] [] cp1) "append" ap2) [e] [] cp2) pos) (tS (pX X) X.K H0 fun ρ => (fp ρ).bind fun q => (ρ.sub q).bind fun t => (fb ρ).bind fun y => (sdD T t y (.lst [])).bind fun r => (fa (ρ.putT q r.2)).bind fun d => (r.2.kids[r.1]?.bind fun w => pappD w (.fz d)).map fun w => .nx (ρ.putT q (r.2.setKid r.1 w))) := by
  have pe0 : PE X (.Call (.Attribute pth "setdefault" ap1) [b, .List [] lp] [] cp1) (fun σ H Q => tPth (pX X) X.K fp σ H fun x H1 => ∃ l k ρ es, x = .ref l ∧ H1 l = some (rawO l es) ∧ EnvOk (pX X) X.K H1 ρ σ ∧ fb ρ = some k ∧ ∀ y H2 p, Same H1 H2 → Rp (pX X) X.K H2 k y → H2 p = none → Setd X (upd H2 p (.lst [])) l y k (.ref p) Q) :=
    ⟨fun pins s σ H Q I h => setd_run c hp hb m I h⟩
  have pe := pe_bm (apos := ap2) (cpos := cp2) PySem.F.plainAttrs_list PySem.F.slot_list_append PySem.F.type_list_append mt_append pe0 (pa_cons he pa_nil hst) hbase (by rw [hst]; rfl) (by rw [hl]; simp) hst rfl
  refine PSwk (ps_expr pe) fun E σ H ⟨ρ, o, F, hf, kE⟩ => ?_
  obtain ⟨q, e1, hf⟩ := bnd hf
  obtain ⟨t, e2, hf⟩ := bnd hf
  obtain ⟨k, e3, hf⟩ := bnd hf
  obtain ⟨r, e4, hf⟩ := bnd hf
  obtain ⟨d, e5, hf⟩ := bnd hf
  obtain ⟨w, e6, e7⟩ := mpd hf
  obtain ⟨w0, e8, e9⟩ := bnd e6
  subst e7
  obtain ⟨t0, ht, hat⟩ := sub_root e2
  obtain ⟨ks, xs, qk, et, hkq, hz, cases_⟩ := sdD_eq e4
  subst et
  obtain ⟨ys, ew0, ew, hzy⟩ := pappD_eq e9
  subst ew0 ew
  obtain ⟨fpt, hfp⟩ := F.fp
  obtain ⟨v0, hv0⟩ := own_val F.env (tree_at ht) rfl
  have root : OwT (pX X) X.K H t0 v0 (fpt q.1) := hfp.is q.1 _ _ (tree_at ht) rfl hv0
  have hat' : (t0.put_ q.2 r.2).at_ q.2 = some r.2 := at_put t0 q.2 r.2 _ hat
  have hil : q.1 < ρ.length := (List.getElem?_eq_some_iff.mp (tree_at ht)).1
  -- behind the setdefault
  have fin : ∀ (H3 : Hp) (x : V) (fp' : Nat → List Addr), Kp H H3 → Fps (pX X) X.K H0 H3 (ρ.putT q r.2) σ fp' → Fr (pX X) X.K H0 H3 (ρ.putT q r.2) σ → Foc (pX X) X.K H3 (t0.put_ q.2 r.2) v0 (fp' q.1) (q.2 ++ [r.1]) (.lst ys) x →
      tyV X.K "list" x H3 ∧ tCons (tE (pX X) X.K fa) tNil σ H3 fun vs H4 => rAppend x vs H4 fun _ H5 => E.nx σ H5 := by
    intro H3 x fp' k3 hfp3 F3 foc
    refine ⟨?_, ρ.putT q r.2, d, F3.env, e5, fun w H4 s4 r4 => ?_⟩
    · obtain ⟨A, F1, B, _, h5, _⟩ := foc.it
      simp only [OwT] at h5
      obtain ⟨a, vs, G, ev, _, h6, _⟩ := h5
      rw [ev]
      exact .inl ⟨rfl, _, SqL.of h6⟩
    · have ht3 : (ρ.putT q r.2)[q.1]? = some (.tr (t0.put_ q.2 r.2)) := by
        rw [putT_eq ht]
        exact List.getElem?_set_self hil
      have hatj : (t0.put_ q.2 r.2).at_ (q.2 ++ [r.1]) = some (.lst ys) := by
        rw [at_snoc _ q.2 r.2 r.1 hat']
        exact e8
      obtain ⟨F1, ow, n1, wr⟩ := (F3.up s4).wrt (hfp3.up s4) ht3 hv0 hatj (foc.same s4)
      obtain ⟨a, vs, ev, h1, hl2, kp, off, ow2⟩ := ow.app r4 n1
      obtain ⟨fp5, _, F5, _⟩ := wr _ _ F1 kp off ow2 n1 fun b hb => .inl hb
      refine ⟨a, vs, w, ev, rfl, h1, by rw [hl2]; exact hzy, ?_⟩
      have eq1 : (ρ.putT q r.2).set q.1 (.tr ((t0.put_ q.2 r.2).put_ (q.2 ++ [r.1]) (.lst (ys ++ [.fz d])))) = ρ.putT q (r.2.setKid r.1 (.lst (ys ++ [.fz d]))) := by
        rw [putT_eq ht, putT_eq ht, List.set_set, put_snoc _ q.2 r.2 r.1 _ hat' ⟨_, e8⟩, put_put t0 q.2 _ _ _ hat]
      rw [eq1] at F5
      exact kE σ _ ((k3.trans s4.kp).trans kp) F5
  refine ⟨ρ, q, t0, v0, fpt q.1, _, F.env, e1, ht, hv0, root, hat, fun v H1 s1 foc => ?_⟩
  obtain ⟨F1, ow, n1, _⟩ := (F.up s1).wrt (hfp.up s1) (tree_at ht) hv0 hat foc
  simp only [OwT] at ow
  obtain ⟨l, es, vs, G, ev, eF, h1, _⟩ := ow
  refine ⟨l, k, ρ, es, ev, h1, F.env.same s1, e3, fun y H2 p s2 r2 hp2 => ?_⟩
  have s3 : Same H2 (upd H2 p (.lst [])) := same_new hp2
  have s12 := s1.trans s2
  have s13 := s12.trans s3
  rcases cases_ with ⟨j, c1, c2⟩ | ⟨c1, c2⟩
  · subst c2
    have e8 : (Od.dct ks xs).kids[j]? = some (.lst ys) := e8
    obtain ⟨a', vs', w, ev', hw, hlen, foc2, kinds⟩ := (foc.same (s2.trans s3)).step hat e8
    rw [ev] at ev'
    cases ev'
    rcases kinds with ⟨xs', et', _⟩ | ⟨ks', xs', es', et', hr, hk', hn', hval⟩ | ⟨c', ns, xs', C, dx, et', _⟩
    · cases et'
    · cases et'
      obtain ⟨nks, hnk⟩ := hk'.ks
      have hsz : es'.size = ks.length := by
        have := hk'.len
        simpa using this
      have hj := pos_dct (T := T) hnk c1
      refine ⟨es', ks, nks, qk, hr, hkq, hk', hn', hnk, by omega, fun hnot => absurd (List.mem_of_getElem? hj) hnot, fun j' hj' => ?_⟩
      obtain rfl : j = j' := ksOf_idx hnk hn' hj hj'
      obtain ⟨en, g1, g2⟩ := hval.at hw
      refine ⟨en, w, arr_at g1, g2, ?_⟩
      have eput : ρ.putT q (.dct ks xs) = ρ := by
        rw [putT_eq ht, put_self t0 q.2 _ hat]
        obtain ⟨hl1, hl2⟩ := List.getElem?_eq_some_iff.mp (tree_at ht)
        rw [← hl2, List.set_getElem_self hl1]
      refine fin _ w fpt s13.kp ?_ ?_ ?_
      · show Fps _ _ _ _ (ρ.putT q (.dct ks xs)) _ _
        rw [eput]
        exact hfp.up s13
      · show Fr _ _ _ _ (ρ.putT q (.dct ks xs)) _
        rw [eput]
        exact F.up s13
      · show Foc _ _ _ (t0.put_ q.2 (.dct ks xs)) _ _ (q.2 ++ [j]) _ _
        rw [put_self t0 q.2 _ hat]
        exact foc2
    · cases et'
  · subst c2
    obtain ⟨F1', ow3, n3, wr⟩ := (F.up s12).wrt (hfp.up s12) (tree_at ht) hv0 hat (foc.same s2)
    have pn : p ∉ F1' := fun hm => by
      obtain ⟨o, ho⟩ := ow3.isat hm
      rw [hp2] at ho
      cases ho
    have ow4 := ow3.same s3
    simp only [OwT] at ow4
    obtain ⟨l', es', vs', G', ev', eF', h1', hk', hn', hval, hA⟩ := ow4
    rw [ev] at ev'
    cases ev'
    obtain ⟨nks, hnk⟩ := hk'.ks
    have hsz : es'.size = ks.length := by
      have := hk'.len
      simpa using this
    have hnot := pos_none (T := T) hnk c1
    refine ⟨es', ks, nks, qk, h1', hkq, hk', hn', hnk, by omega, fun _ en g1 g2 g3 => ?_, fun j hj => absurd (List.mem_of_getElem? hj) hnot⟩
    have pm : OwT (pX X) X.K (upd H2 p (.lst [])) (.lst []) (.ref p) [p] := by
      simp only [OwT, OwA]
      exact ⟨p, [], [], rfl, rfl, upd_same, rfl, rfl⟩
    have ln : l ∉ [p] := fun hm => pn (by
      rw [eF', List.mem_singleton.mp hm]
      simp)
    obtain ⟨kp, off, ow5, d1, d2, d3, d4⟩ := OwT.dsnoc (e := en) ev eF' h1' hk' hn' hval hA n3 pm ln g1 (Rp.keep s3.kp _ _ r2) hkq g3 g2 hnk hnot
    obtain ⟨fp', hfp4, F4, A, B, eAB, wr2⟩ := wr _ _ _ (s3.kp.trans kp) (fun b hb o eo => off b hb o (s3 b o eo)) ow5 (List.nodup_append.mpr ⟨n3, by simp, fun a ha b hb e => pn (by
      rw [← List.mem_singleton.mp hb, ← e]
      exact ha)⟩) fun b hb => by
        rcases List.mem_append.mp hb with hb | hb
        · exact .inl hb
        · rw [List.mem_singleton.mp hb]
          exact .inr hp2
    have e8 : (Od.dct (ks ++ [k]) (xs ++ [.lst []])).kids[xs.length]? = some (.lst ys) := e8
    obtain ⟨w, hw, foc5⟩ := foc_dct (at_put t0 q.2 _ _ hat) ev upd_same d1 d2 d3 d4 wr2 e8
    have hlv : vs'.length = xs.length := hA.len
    rw [← hlv, List.getElem?_concat_length, Option.some.injEq] at hw
    subst hw
    refine fin _ _ fp' (s13.kp.trans kp) ?_ ?_ ?_
    · rw [putT_eq ht]; exact hfp4
    · rw [putT_eq ht]; exact F4
    · rw [eAB, eF']
      exact foc5
end
end PL


set_option Elab.async false
set_option linter.all false
set_option maxRecDepth 100000
/-! PLv: which term of the small language a program's statement is; what is told of it holds. -/
namespace PL
open PySem PySem.Spec PyProof.Rows L2
def isComp : Expr → Bool
  | .ListComp _ _ _ _ => true
  | .SetComp _ _ _ _ => true
  | .DictComp _ _ _ _ _ => true
  | _ => false
/-- a comprehension that a local name takes on the same row -/
def swapT (sc : Scope) (tg val : Expr) : Bool := match tg with
  | .Name t tp => isComp val && decide (tp.line = val.pos.line) && knd sc t .local && (match val with
    | .ListComp _ _ s _ => !(s.names.any fun (n, k) => n == t && (k == .local || k == .cell))
    | .SetComp _ _ s _ => !(s.names.any fun (n, k) => n == t && (k == .local || k == .cell))
    | .DictComp _ _ _ s _ => !(s.names.any fun (n, k) => n == t && (k == .local || k == .cell))
    | _ => false)
  | _ => false
/-- a tuple of targets of which one is no local name on the first one's row -/
def swN (sc : Scope) (ts : List Expr) : Bool := ts.any fun t => match t with
  | .Name id pos => !(knd sc id .local) || !(pos.line == (ts.head?.map (·.pos.line)).getD 0)
  | _ => true
def parOk (tg val : Expr) (sc : Scope) : Bool := match tg, val with
  | .Tuple ts _ _, .Tuple vs _ _ => swN sc ts || vs.all (foldedForSure 8)
  | .List _ _, _ => false
  | _, _ => true
mutual
/-- new trees -/
def mRt (m : Mc) (sc : Scope) : Rt → Expr → Bool
  | .ex a, e => mE m sc a e
  | .nl as, e => match e with
    | .List es _ => decide (es.length ≤ 1000) && mRts m sc as es
    | _ => false
  | .nd, e => match e with
    | .Dict [] [] _ => true
    | _ => false
def mRts (m : Mc) (sc : Scope) : Rts → List Expr → Bool
  | .nil, es => es.isEmpty
  | .cons a as, es => match es with
    | e :: r => mRt m sc a e && mRts m sc as r
    | [] => false
end
def mR (m : Mc) (sc : Scope) : Rx → Expr → Bool
  | .tr t, e => mRt m sc t e
  | .ex a, e => mE m sc a e
  | .nl as, e => match e with
    | .List es _ => decide (es.length ≤ 1000) && mEs m sc as es
    | _ => false
  | .nd, e => match e with
    | .Dict [] [] _ => true
    | _ => false
  | .nd2 k1 v1 k2 v2, e => match e with
    | .Dict [some a, some c] [b, d] _ => mE m sc k1 a && mE m sc v1 b && mE m sc k2 c && mE m sc v2 d
    | _ => false
def mN (m : Mc) (sc : Scope) (i : Nat) (x : Str) : Bool := decide (m.N[i]? = some x) && knd sc x .local
mutual
def mS (m : Mc) (sc : Scope) : St → Stmt → Bool
  | .asg p e, s => match s with
    | .Assign [tg] val _ => mE m sc e val && mP m sc p tg && (if swapT sc tg val then true else parOk tg val sc)
    | _ => false
  | .new i r, s => match s with
    | .Assign [.Name x _] val _ => locB m sc i x && mR m sc r val && !isComp val
    | _ => false
  | .par i j a b, s => match s with
    | .Assign [.Tuple [.Name x px, .Name y py] _ _] (.Tuple [l, r] _ _) _ => decide (i ≠ j) && mN m sc i x && mN m sc j y && (py.line == px.line) && decide (x ≠ y) && !(foldedForSure 8 l && foldedForSure 8 r) && !(constantsAlone 8 l && constantsAlone 8 r) && mR m sc a l && mR m sc b r
    | _ => false
  | .par3 i j k a b c, s => match s with
    | .Assign [.Tuple [.Name x px, .Name y py, .Name z pz] _ _] (.Tuple [l, r, t] _ _) _ => decide (i ≠ j) && decide (i ≠ k) && decide (j ≠ k) && mN m sc i x && mN m sc j y && mN m sc k z && (py.line == px.line) && (pz.line == px.line) && decide (x ≠ y) && decide (x ≠ z) && decide (y ≠ z) &&
      !(foldedForSure 8 l && (foldedForSure 8 r && foldedForSure 8 t)) && !(constantsAlone 8 l && (constantsAlone 8 r && constantsAlone 8 t)) && mR m sc a l && mR m sc b r && mR m sc c t
    | _ => false
  | .aug i o e, s => match s with
    | .AugAssign (.Name x _) op val _ => decide (op = opPy o) && locB m sc i x && mE m sc e val
    | _ => false
  | .app i e, s => match s with
    | .Expr (.Call (.Attribute (.Name x _) a apos) [l] [] cpos) _ => decide (a = "append") && visB m sc i x && decide (apos.endLine = cpos.line) && mE m sc e l
    | _ => false
  | .ins i k e, s => match s with
    | .Expr (.Call (.Attribute (.Name x _) a apos) [t, l] [] cpos) _ => decide (a = "insert") && visB m sc i x && decide (apos.endLine = cpos.line) && mE m sc k t && mE m sc e l
    | _ => false
  | .put i k e, s => match s with
    | .Assign [.Subscript (.Name x _) kx _] val _ => visB m sc i x && mE m sc k kx && mE m sc e val
    | _ => false
  | .ife c a b, s => match s with
    | .If t l r _ => mE m sc c t && mSs m sc a l && mSs m sc b r
    | _ => false
  | .for_ p it body, s => match s with
    | .For tg iter bd [] _ => (!it.pairs || isTup tg) && mI m sc it iter && mP m sc p tg && mSs m sc body bd
    | _ => false
  | .whl c body, s => match s with
    | .While t bd [] _ => mE m sc c t && mSs m sc body bd
    | _ => false
  | .ret e, s => match s with
    | .Return (some v) _ => mE m sc e v
    | _ => false
  | .retN, s => match s with
    | .Return none _ => true
    | _ => false
  | .ex e, s => match s with
    | .Expr v _ => mE m sc e v && !isComp v
    | _ => false
  | .raise_, _ => true
  | .pass, s => match s with
    | .Pass _ => true
    | _ => false
  | .brk, s => match s with
    | .Break _ => true
    | _ => false
  | .cont, s => match s with
    | .Continue _ => true
    | _ => false
  | .fz _ st, s => mS m sc st s
  | .papp p e, s => match s with
    | .Expr (.Call (.Attribute pe a apos) [l] [] cpos) _ => decide (a = "append") && decide (apos.endLine = cpos.line) && noC0 pe && mPth m sc p pe && mE m sc e l
    | _ => false
  | .pput _ _ _, _ => false
  | .paug _ _ _ _, _ => false
  | .sdapp p k e, s => match s with
    | .Expr (.Call (.Attribute (.Call (.Attribute pe a ap1) [ke, .List [] _] [] cp1) b ap2) [l] [] cp2) _ => decide (a = "setdefault") && decide (b = "append") && decide (ap1.endLine = cp1.line) && decide (ap2.endLine = cp2.line) && noC0 pe && mPth m sc p pe && mE m sc k ke && mE m sc e l
    | _ => false
  | .sdput _ _ _ _, _ => false
def mSs (m : Mc) (sc : Scope) : Ss → List Stmt → Bool
  | .nil, l => l.isEmpty
  | .cons s ss, l => match l with
    | st :: r => mS m sc s st && mSs m sc ss r
    | [] => false
end
section
variable {X : Cx} {H0 : Bg} {m : Mc} {sc : Scope} {G : Gb}
/-- a def's own context -/
structure Fc (X : Cx) (m : Mc) (sc : Scope) : Prop where
  s : Sc X m sc
  scp : X.env.scope = sc
  kind : sc.kind = .function
  fn : ∀ x, X.fn x = true
  po : PassesOwn (model X.prog X.w) X.A X.env X.xe
theorem Fc.blk (F : Fc X m sc) : X.env.blockKind = .function := by
  unfold Env.blockKind
  rw [F.scp, F.kind]
  rfl
theorem Fc.lk (F : Fc X m sc) {x : Str} (h : knd sc x .local = true) : X.env.scope.names.lookup x = some .local := by
  rw [F.scp]
  exact of_decide_eq_true h
theorem Fc.ko (F : Fc X m sc) {x : Str} (h : knd sc x .local = true) : X.env.kindOf x = some .local := F.lk h
theorem swaps_no {e : Expr} {t : Option Expr} {l : Nat} {env : Env} (h : isComp e = false) : swapsWith e t l env = pure false := by
  cases e <;> first | rfl | cases h
theorem swaps_sub {e a b : Expr} {p : Pos} {l : Nat} {env : Env} : swapsWith e (some (.Subscript a b p)) l env = pure false := by
  cases e <;> rfl
theorem swaps_tup {e : Expr} {ts : List Expr} {k : Nat} {p : Pos} {l : Nat} {env : Env} : swapsWith e (some (.Tuple ts k p)) l env = pure false := by
  cases e <;> rfl
theorem swaps_of (F : Fc X m sc) {tg val : Expr} {l : Nat} (ht : isTup tg = true ∨ ∃ x p, tg = .Name x p) (h : swapT sc tg val = false) : swapsWithSole [tg] val l X.env = pure false := by
  show swapsWith val (some tg) l X.env = pure false
  rcases ht with ht | ⟨x, p, e⟩
  · cases tg <;> first | (cases ht; done) | exact swaps_tup
  · subst e
    have hk : (X.env.kindOf x == some .local) = knd sc x .local := by
      unfold knd Env.kindOf
      rw [F.scp]
      by_cases z : sc.names.lookup x = some .local
      · rw [z]; rfl
      · rw [decide_eq_false z]
        exact beq_eq_false_iff_ne.mpr z
    have hb := F.blk
    cases val <;> first
      | rfl
      | (simp only [swapT, isComp, Bool.true_and, Expr.pos] at h
         unfold swapsWith
         simp only [hb, hk, Expr.pos]
         refine congrArg pure ?_
         rw [← h]
         simp only [beq_self_eq_true, Bool.true_and]
         rw [Bool.and_comm (knd sc x .local)]
         rfl)
theorem swapped_none (F : Fc X m sc) {tg val : Expr} (h : parOk tg val sc = true) : swappedStores [tg] val X.env = pure none := by
  cases tg with
  | Tuple ts k p =>
    cases val with
    | Tuple vs k2 p2 =>
      have h : (swN sc ts || vs.all (foldedForSure 8)) = true := h
      rw [Bool.or_eq_true] at h
      rcases h with h | h
      rotate_left
      · unfold swappedStores
        simp only [pure_bind]
        split
        · rfl
        · split
          · rfl
          · split
            · rfl
            · first | rfl | exact if_pos h
      have key : ((ts.filterMap fun t => match t with
        | .Name id pos => if X.env.kindOf id == some .local && pos.line == (ts.head?.map (·.pos.line)).getD 0 then some id else none
        | _ => none).length != ts.length) = true := by
        rw [bne_iff_ne]
        unfold swN at h
        have hk : ∀ id, (X.env.kindOf id == some .local) = knd sc id .local := fun id => by
          unfold knd Env.kindOf
          rw [F.scp]
          by_cases z : sc.names.lookup id = some .local
          · rw [z]; rfl
          · rw [decide_eq_false z]
            exact beq_eq_false_iff_ne.mpr z
        generalize (ts.head?.map (·.pos.line)).getD 0 = line at h ⊢
        have lt : ∀ l : List Expr, (l.any fun t => match t with
            | .Name id pos => !(knd sc id .local) || !(pos.line == line)
            | _ => true) = true → (l.filterMap fun t => match t with
            | .Name id pos => if X.env.kindOf id == some .local && pos.line == line then some id else none
            | _ => none).length < l.length := by
          intro l
          induction l with
          | nil => intro h; cases h
          | cons t r ih =>
            intro h
            have le := List.length_filterMap_le (fun t => match t with
              | Expr.Name id pos => if X.env.kindOf id == some .local && pos.line == line then some id else none
              | _ => none) r
            rw [List.any_cons, Bool.or_eq_true] at h
            rw [List.filterMap_cons, List.length_cons]
            rcases h with h | h
            · have z : (match t with
                | Expr.Name id pos => if X.env.kindOf id == some .local && pos.line == line then some id else none
                | _ => none) = none := by
                cases t <;> try rfl
                simp only [Bool.or_eq_true, Bool.not_eq_true'] at h
                simp only [hk]
                rcases h with h | h <;> rw [h] <;> simp
              rw [z]
              exact Nat.lt_succ_of_le le
            · have := ih h
              split
              · omega
              · rw [List.length_cons]; omega
        exact Nat.ne_of_lt (lt ts h)
      unfold swappedStores
      simp only [pure_bind]
      split
      · rfl
      · split
        · rfl
        · refine if_pos ?_
          rw [Bool.or_eq_true]
          exact .inl key
    | _ => rfl
  | List ts p => cases val <;> cases h
  | _ => rfl
theorem swapped_two (F : Fc X m sc) {x y : Str} {px py pt pt2 : Pos} {kt k2 : Nat} {a b : Expr} (hx : knd sc x .local = true) (hy : knd sc y .local = true) (hl : (py.line == px.line) = true) (hxy : x ≠ y) (h1 : (foldedForSure 8 a && foldedForSure 8 b) = false) (h2 : (constantsAlone 8 a && constantsAlone 8 b) = false) (sa : ∀ f p, a ≠ .Starred f p) (sb : ∀ f p, b ≠ .Starred f p) :
    swappedStores [.Tuple [.Name x px, .Name y py] kt pt] (.Tuple [a, b] k2 pt2) X.env = pure (some [x, y]) := by
  have st : ([a, b].any fun | .Starred .. => true | _ => false) = false := by
    have one : ∀ {e : Expr}, (∀ f p, e ≠ .Starred f p) → (match e with | .Starred .. => true | _ => false) = false := by
      intro e he
      cases e <;> first | rfl | exact absurd rfl (he _ _)
    rw [List.any_cons, List.any_cons, one sa, one sb]
    rfl
  have kx := F.ko hx
  have ky := F.ko hy
  have hb := F.blk
  have d2 : ([x, y] : List Str).eraseDups.length = 2 := by
    have e : (y == x) = false := beq_eq_false_iff_ne.mpr (Ne.symm hxy)
    rw [List.eraseDups_cons]
    simp [List.filter, e, List.eraseDups_cons]
  have nm : ([Expr.Name x px, Expr.Name y py].filterMap fun
      | .Name id pos => if X.env.kindOf id == some .local && pos.line == (([Expr.Name x px, Expr.Name y py].head?.map (·.pos.line)).getD 0) then some id else none
      | _ => none) = [x, y] := by
    simp only [List.filterMap_cons, List.filterMap_nil, kx, ky, List.head?_cons, Option.map_some, Option.getD_some, Expr.pos, hl, beq_self_eq_true, Bool.true_and, if_true]
  unfold swappedStores
  simp only [pure_bind, hb]
  refine (if_neg (fun h => by simp at h)).trans ?_
  refine (if_neg (fun h => by have z := h.symm.trans st; cases z)).trans ?_
  generalize hn : List.filterMap _ _ = names
  have en : names = [x, y] := hn.symm.trans nm
  subst en
  refine (if_neg (by rw [d2]; simp)).trans ?_
  refine (if_neg (by simpa using h1)).trans ?_
  refine (if_neg (by simpa using h2)).trans ?_
  rfl
theorem swapped_three (F : Fc X m sc) {x y z : Str} {px py pz pt pt2 : Pos} {kt k2 : Nat} {a b d : Expr} (hx : knd sc x .local = true) (hy : knd sc y .local = true) (hz : knd sc z .local = true) (hl : (py.line == px.line) = true) (hl2 : (pz.line == px.line) = true) (hxy : x ≠ y) (hxz : x ≠ z) (hyz : y ≠ z) (h1 : (foldedForSure 8 a && (foldedForSure 8 b && foldedForSure 8 d)) = false) (h2 : (constantsAlone 8 a && (constantsAlone 8 b && constantsAlone 8 d)) = false) (sa : ∀ f p, a ≠ .Starred f p) (sb : ∀ f p, b ≠ .Starred f p) (sd : ∀ f p, d ≠ .Starred f p) :
    swappedStores [.Tuple [.Name x px, .Name y py, .Name z pz] kt pt] (.Tuple [a, b, d] k2 pt2) X.env = pure (some [x, y, z]) := by
  have st : ([a, b, d].any fun | .Starred .. => true | _ => false) = false := by
    have one : ∀ {e : Expr}, (∀ f p, e ≠ .Starred f p) → (match e with | .Starred .. => true | _ => false) = false := by
      intro e he
      cases e <;> first | rfl | exact absurd rfl (he _ _)
    rw [List.any_cons, List.any_cons, List.any_cons, one sa, one sb, one sd]
    rfl
  have kx := F.ko hx
  have ky := F.ko hy
  have kz := F.ko hz
  have hb := F.blk
  have d2 : ([x, y, z] : List Str).eraseDups.length = 3 := by
    have e : (y == x) = false := beq_eq_false_iff_ne.mpr (Ne.symm hxy)
    have e2 : (z == x) = false := beq_eq_false_iff_ne.mpr (Ne.symm hxz)
    have e3 : (z == y) = false := beq_eq_false_iff_ne.mpr (Ne.symm hyz)
    rw [List.eraseDups_cons]
    simp [List.filter, e, e2, e3, List.eraseDups_cons]
  have nm : ([Expr.Name x px, Expr.Name y py, Expr.Name z pz].filterMap fun
      | .Name id pos => if X.env.kindOf id == some .local && pos.line == (([Expr.Name x px, Expr.Name y py, Expr.Name z pz].head?.map (·.pos.line)).getD 0) then some id else none
      | _ => none) = [x, y, z] := by
    simp only [List.filterMap_cons, List.filterMap_nil, kx, ky, kz, List.head?_cons, Option.map_some, Option.getD_some, Expr.pos, hl, hl2, beq_self_eq_true, Bool.true_and, if_true]
  unfold swappedStores
  simp only [pure_bind, hb]
  refine (if_neg (fun h => by simp at h)).trans ?_
  refine (if_neg (fun h => by have z := h.symm.trans st; cases z)).trans ?_
  generalize hn : List.filterMap _ _ = names
  have en : names = [x, y, z] := hn.symm.trans nm
  subst en
  refine (if_neg (by rw [d2]; simp)).trans ?_
  refine (if_neg (by simpa using h1)).trans ?_
  refine (if_neg (by simpa using h2)).trans ?_
  rfl
end
end PL


set_option Elab.async false
set_option linter.all false
set_option maxRecDepth 100000
/-! PLw: the match is sound, for statements and defs. -/
namespace PL
open PySem PySem.Spec PyProof.Rows L2
section
variable {X : Cx} {H0 : Bg} {m : Mc} {sc : Scope} {G : Gb}
theorem lc_wk {fi : RE (List D)} {y : Bool} {gg : TG} {tt : TT} {te : TE} {vs : List Nat} {σ : L2.St} {H : Hp} {Q Q' : VK} (h : tLc (tI (pX X) X.K fi y) gg tt te vs σ H Q) (w : ∀ v H', Q v H' → Q' v H') : tLc (tI (pX X) X.K fi y) gg tt te vs σ H Q' := by
  obtain ⟨ρ, ds, E, hf, q⟩ := h
  refine ⟨ρ, ds, E, hf, fun J H' s g a ha => ?_⟩
  obtain ⟨W, w0, st⟩ := q J H' s g a ha
  exact ⟨W, w0, fun i m H hW => (st i m H hW).imp (fun z => ⟨z.1, w _ _ z.2⟩) id⟩
mutual
theorem sRt (c : Ctx X) (S : Sc X m sc) (g : GOk X G m) : ∀ (r : Rt) (e : Expr), mRt m sc r e = true → PE X e (tOt (pX X) X.K (evRt G r)) ∧ ∀ f p, e ≠ .Starred f p
  | .ex a, e, h => by
    simp only [mRt] at h
    exact ⟨ro_ex (sE G m a X sc c S g e h).1, fun f p => mE_star h⟩
  | .nl as, e, h => by
    simp only [mRt] at h
    split at h
    · simp only [Bool.and_eq_true, decide_eq_true_eq] at h
      obtain ⟨r1, r2⟩ := sRts c S g as _ h.2
      exact ⟨ro_nl r1 h.1 r2, fun f p z => by cases z⟩
    · cases h
  | .nd, e, h => by
    simp only [mRt] at h
    split at h
    · exact ⟨ro_nd, fun f p z => by cases z⟩
    · cases h
theorem sRts (c : Ctx X) (S : Sc X m sc) (g : GOk X G m) : ∀ (r : Rts) (es : List Expr), mRts m sc r es = true → PA X es (tOA (pX X) X.K (evRts G r)) ∧ ∀ ρ ts, evRts G r ρ = some ts → ts.length = es.length
  | .nil, es, h => by
    cases es with
    | nil => exact ⟨roa_nil, fun ρ ts e => by simp only [evRts, Option.some.injEq] at e; subst e; rfl⟩
    | cons _ _ => simp [mRts] at h
  | .cons a as, es, h => by
    cases es with
    | nil => simp [mRts] at h
    | cons e r =>
      simp only [mRts, Bool.and_eq_true] at h
      obtain ⟨a1, a2⟩ := sRt c S g a e h.1
      obtain ⟨b1, b2⟩ := sRts c S g as r h.2
      refine ⟨roa_cons a1 b1 (star_cons a2), fun ρ ts z => ?_⟩
      simp only [evRts] at z
      obtain ⟨t, z1, z2⟩ := bnd z
      obtain ⟨ts', z3, z4⟩ := mpd z2
      subst z4
      simp [b2 _ _ z3]
end
theorem sR (c : Ctx X) (S : Sc X m sc) (g : GOk X G m) {r : Rx} {e : Expr} (h : mR m sc r e = true) : PE X e (tR (pX X) X.K (evR G r)) ∧ ∀ f p, e ≠ .Starred f p := by
  cases r with
  | tr t =>
    obtain ⟨r1, r2⟩ := sRt c S g t e h
    exact ⟨rr_tr r1, r2⟩
  | ex a =>
    have h : mE m sc a e = true := h
    exact ⟨rr_ex (sE G m a X sc c S g e h).1, fun f p => mE_star h⟩
  | nl as =>
    simp only [mR] at h
    split at h
    · simp only [Bool.and_eq_true, decide_eq_true_eq] at h
      exact ⟨rr_nl (sEs G m as X sc c S g _ h.2) h.1 fun ρ ds hd => by rw [evs_len hd, mEs_len h.2], fun f p z => by cases z⟩
    · cases h
  | nd =>
    simp only [mR] at h
    split at h
    · exact ⟨rr_nd, fun f p z => by cases z⟩
    · cases h
  | nd2 k1 v1 k2 v2 =>
    simp only [mR] at h
    split at h
    · simp only [Bool.and_eq_true] at h
      obtain ⟨⟨⟨h1, h2⟩, h3⟩, h4⟩ := h
      exact ⟨rr_nd2 (T := G.tups) c (sE G m k1 X sc c S g _ h1).1 (sE G m v1 X sc c S g _ h2).1 (sE G m k2 X sc c S g _ h3).1 (sE G m v2 X sc c S g _ h4).1, fun f p z => by cases z⟩
    · cases h
theorem mPth_lc {p : Pth} {el : Expr} {gs : List Comprehension} {s : Scope} {vp : Pos} : mPth m sc p (.ListComp el gs s vp) = false := by cases p <;> simp [mPth]
theorem mPth_dc {p : Pth} {ke ve : Expr} {gs : List Comprehension} {s : Scope} {vp : Pos} : mPth m sc p (.DictComp ke ve gs s vp) = false := by cases p <;> simp [mPth]
theorem mPth_sc {p : Pth} {el : Expr} {gs : List Comprehension} {s : Scope} {vp : Pos} : mPth m sc p (.SetComp el gs s vp) = false := by cases p <;> simp [mPth]
/-- x = [..] on one row -/
theorem sSetL (c : Ctx X) (F : Fc X m sc) (g : GOk X G m) {i : Nat} {x : Str} {tp spos : Pos} {a : Ex} {el : Expr} {gs : List Comprehension} {scope : Scope} {vp : Pos} (hl : mP m sc (.v i) (.Name x tp) = true) (hs : swapT sc (.Name x tp) (.ListComp el gs scope vp) = true) (h : mE m sc a (.ListComp el gs scope vp) = true) :
    PS X (.Assign [.Name x tp] (.ListComp el gs scope vp) spos) (tS (pX X) X.K H0 fun ρ => (ev G a ρ).bind fun d => (bindP (.v i) d ρ).map Out.nx) := by
  cases a <;> simp only [mE] at h <;> try (first | (cases h; done) | (simp [mPth_lc] at h; done))
  rename_i own elt p it cond
  split at h
  · rename_i q
    cases q
    rename_i tg iter ifs ia
    simp only [Bool.and_eq_true, decide_eq_true_eq] at h
    obtain ⟨⟨⟨⟨⟨⟨⟨h1, h2⟩, h3⟩, h4⟩, h5⟩, h6⟩, h7⟩, h8⟩ := h
    subst h1
    have S := F.s
    have eo : (ownS m own).map (·.2) = own := ownS_snd m own
    simp only [swapT, isComp, Bool.true_and, Bool.and_eq_true, decide_eq_true_eq, Expr.pos, Bool.not_eq_true'] at hs
    obtain ⟨⟨k1, k2⟩, k3⟩ := hs
    simp only [mP, Pat.isCh, Bool.not_false, Bool.true_and, mPs, locB, Bool.and_eq_true, decide_eq_true_eq] at hl
    have r := ps_setLc (i := i) (y := x) (py := tp) (elt := el) (pos := vp) (spos := spos) (g := tZ (pX X) X.K it.pairs p) (tt := tT (pX X) X.K (evC G cond)) (te := tE (pX X) X.K (ev G elt)) c.calm c.nd (by rw [S.hN]; exact hl.1.1) (F.lk k2) (sw_true (by rw [F.scp]; exact F.kind) (F.lk k2) (beq_iff_eq.mpr (of_decide_eq_true k1)) k3) (sI G m it X sc c S g iter tg h5 (by simpa using h4)) (blk_ok S h2)
      (fun s H b cl fp => sPz (blk_ctx (scope := scope) c s H b cl fp) (blk_sc S s H b cl fp) h4 h6) (fun s H b cl fp => sC G m cond _ _ (blk_ctx (scope := scope) c s H b cl fp) (blk_sc S s H b cl fp) (blk_gok g s H b cl fp) _ h7)
      (fun s H b cl fp => (sE G m elt _ _ (blk_ctx (scope := scope) c s H b cl fp) (blk_sc S s H b cl fp) (blk_gok g s H b cl fp) _ h8).1) (fold_of h5)
    refine ⟨fun pins s σ H E I ⟨ρ, o, Fr0, hf, q⟩ => ?_⟩
    obtain ⟨d, e1, hf⟩ := bnd hf
    obtain ⟨ρ', e2, e3⟩ := mpd hf
    subst e3
    refine thn (r.run pins s σ H { E with nx := fun σ' H' => ∃ p o, H' p = some o ∧ Mut (some o) ∧ ∀ od, E.nx σ' (upd H' p (.frz od o)) } I ?_) fun f s' h => SPseal h
    have rd := lc_read (X := X) (own := ownS m own) (y := it.pairs) (P := p) (fi := evI G it) (fc := evC G cond) (fe := ev G elt) (fun j hj => by rw [eo]; simpa using List.all_eq_true.mp h3 j hj) (σ := σ) (H := H) (Q := fun v H' => E.nx (σ.set i (some v)) H')
      (by
        rw [eo]
        refine ⟨ρ, d, Fr0.env, e1, fun v H1 s1 r1 => ?_⟩
        simp only [bindP, Option.some.injEq] at e2
        subst e2
        have F1 := Fr0.up s1
        exact q _ H1 s1.kp (F1.sub (F1.env.set r1) OwSub.set))
    exact lc_wk rd fun v H' ⟨p', o', ev, g1, g2, g3⟩ => ⟨p', o', g1, g2, g3⟩
  · cases h
theorem sSetD (c : Ctx X) (F : Fc X m sc) (g : GOk X G m) {i : Nat} {x : Str} {tp spos : Pos} {a : Ex} {ke ve : Expr} {gs : List Comprehension} {scope : Scope} {vp : Pos} (hl : mP m sc (.v i) (.Name x tp) = true) (hs : swapT sc (.Name x tp) (.DictComp ke ve gs scope vp) = true) (h : mE m sc a (.DictComp ke ve gs scope vp) = true) :
    PS X (.Assign [.Name x tp] (.DictComp ke ve gs scope vp) spos) (tS (pX X) X.K H0 fun ρ => (ev G a ρ).bind fun d => (bindP (.v i) d ρ).map Out.nx) := by
  cases a <;> simp only [mE] at h <;> try (first | (cases h; done) | (simp [mPth_dc] at h; done))
  rename_i own k v p it cond
  split at h
  · rename_i q
    cases q
    rename_i tg iter ifs ia
    simp only [Bool.and_eq_true, decide_eq_true_eq] at h
    obtain ⟨⟨⟨⟨⟨⟨⟨⟨h1, h2⟩, h3⟩, h4⟩, h5⟩, h6⟩, h7⟩, h8⟩, h9⟩ := h
    subst h1
    have S := F.s
    have eo : (ownS m own).map (·.2) = own := ownS_snd m own
    simp only [swapT, isComp, Bool.true_and, Bool.and_eq_true, decide_eq_true_eq, Expr.pos, Bool.not_eq_true'] at hs
    obtain ⟨⟨k1, k2⟩, k3⟩ := hs
    simp only [mP, Pat.isCh, Bool.not_false, Bool.true_and, mPs, locB, Bool.and_eq_true, decide_eq_true_eq] at hl
    have hsw : swapsWith (.DictComp ke ve [⟨tg, iter, ifs, 0⟩] scope vp) (some (.Name x tp)) spos.line X.env = pure true := by
      unfold swapsWith
      simp only [F.blk, F.ko k2, k3, Expr.pos, beq_iff_eq.mpr (of_decide_eq_true k1)]
      rfl
    have r := ps_setDx (i := i) (y := x) (py := tp) (kx := ke) (vx := ve) (pos := vp) (spos := spos) (put := putX (pX X) X.K G.tups) (g := tZ (pX X) X.K it.pairs p) (tt := tT (pX X) X.K (evC G cond)) (tk := tE (pX X) X.K (ev G k)) (tv := tE (pX X) X.K (ev G v)) c.calm c.nd (by rw [S.hN]; exact hl.1.1) (F.lk k2) hsw (sI G m it X sc c S g iter tg h5 (by simpa using h4)) (blk_ok S h2)
      (fun s H b cl fp => sPz (blk_ctx (scope := scope) c s H b cl fp) (blk_sc S s H b cl fp) h4 h6) (fun s H b cl fp => sC G m cond _ _ (blk_ctx (scope := scope) c s H b cl fp) (blk_sc S s H b cl fp) (blk_gok g s H b cl fp) _ h7)
      (fun s H b cl fp => (sE G m k _ _ (blk_ctx (scope := scope) c s H b cl fp) (blk_sc S s H b cl fp) (blk_gok g s H b cl fp) _ h8).1) (fun s H b cl fp => (sE G m v _ _ (blk_ctx (scope := scope) c s H b cl fp) (blk_sc S s H b cl fp) (blk_gok g s H b cl fp) _ h9).1) (fun s H b cl fp => putX_ok (blk_ctx (scope := scope) c s H b cl fp)) (fold_of h5)
    refine PSwk r fun E σ H ⟨ρ, o, Fr0, hf, q⟩ => ?_
    obtain ⟨d, e1, hf⟩ := bnd hf
    obtain ⟨ρ', e2, e3⟩ := mpd hf
    subst e3
    refine dc_read (X := X) (T := G.tups) (own := ownS m own) (y := it.pairs) (P := p) (fi := evI G it) (fc := evC G cond) (fk := ev G k) (fv := ev G v) (fun j hj => by rw [eo]; simpa using List.all_eq_true.mp h3 j hj) ?_
    rw [eo]
    refine ⟨ρ, d, Fr0.env, e1, fun v H1 s1 r1 => ?_⟩
    simp only [bindP, Option.some.injEq] at e2
    subst e2
    have F1 := Fr0.up s1
    exact q _ H1 s1.kp (F1.sub (F1.env.set r1) OwSub.set)
  · cases h
theorem mP_form {P : Pat} {tg : Expr} (h : mP m sc P tg = true) : isTup tg = true ∨ ∃ x p, tg = .Name x p := by
  cases tg <;> simp [mP] at h
  · exact .inr ⟨_, _, rfl⟩
  · exact .inl rfl
theorem assignEach_one {P : Pat} {tg : Expr} (h : mP m sc P tg = true) : (assignEach [tg] X.env).map (·.2) = [assign tg X.env] := by
  rcases mP_form h with h | ⟨x, p, e⟩
  · cases tg <;> first | (cases h; done) | rfl
  · subst e; rfl
theorem nt {b : Bool} (h : (!b) = true) : b = false := by cases b <;> first | rfl | cases h
/-- an assignment of a value -/
theorem sAsg (c : Ctx X) (F : Fc X m sc) (g : GOk X G m) {P : Pat} {a : Ex} {tg val : Expr} {spos : Pos} (h1 : mE m sc a val = true) (h2 : mP m sc P tg = true) (h3 : (if swapT sc tg val then true else parOk tg val sc) = true) :
    PS X (.Assign [tg] val spos) (tS (pX X) X.K H0 fun ρ => (ev G a ρ).bind fun d => (bindP P d ρ).map Out.nx) := by
  cases hsw : swapT sc tg val with
  | false =>
    rw [hsw] at h3
    exact rs_asg (sE G m a X sc c F.s g val h1).1 (sP c F.s h2) (swaps_of F (mP_form h2) hsw) (swapped_none F h3) (assignEach_one h2)
  | true =>
    have hN : ∃ x p, tg = .Name x p := by
      cases tg <;> first | (cases hsw; done) | exact ⟨_, _, rfl⟩
    obtain ⟨x, tp, e⟩ := hN
    subst e
    have hv : ∃ i, P = .v i := by
      cases P with
      | v i => exact ⟨i, rfl⟩
      | nil => simp [mP, Pat.isCh] at h2
      | cons p ps =>
        simp only [mP, Bool.and_eq_true, Bool.not_eq_true'] at h2
        have hc : ps.isCh = false := h2.1
        have z := h2.2
        simp only [mPs, Bool.and_eq_true] at z
        cases ps with
        | v j => simp [mPs] at z
        | nil => cases hc
        | cons q qs => simp [mPs] at z
    obtain ⟨i, e⟩ := hv
    subst e
    cases val <;> first
      | exact sSetL c F g h2 hsw h1
      | exact sSetD c F g h2 hsw h1
      | (simp [swapT, isComp] at hsw; done)
      | (exfalso; cases a <;> simp [mE, mPth_sc] at h1; done)
mutual
theorem sS (hc : Ctx X) (F : Fc X m sc) (g : GOk X G m) : ∀ (s : St) (st : Stmt), mS m sc s st = true → PS X st (tS (pX X) X.K H0 (evS G s))
  | .asg p e, st, h => by
    simp only [mS] at h
    split at h
    · simp only [Bool.and_eq_true] at h
      exact sAsg hc F g h.1.1 h.1.2 h.2
    · cases h
  | .new i r, st, h => by
    simp only [mS] at h
    split at h
    · simp only [Bool.and_eq_true, locB, decide_eq_true_eq, Bool.not_eq_true'] at h
      obtain ⟨l1, l2⟩ := F.s.loc _ h.1.1.1.2
      exact rs_new hc (by rw [F.s.hN]; exact h.1.1.1.1) l1 l2 (sR hc F.s g h.1.2).1 (swaps_no h.2)
    · cases h
  | .par i j a b, st, h => by
    simp only [mS] at h
    split at h
    · simp only [Bool.and_eq_true, mN, decide_eq_true_eq, Bool.not_eq_true'] at h
      obtain ⟨⟨⟨⟨⟨⟨⟨⟨h1, h2⟩, h3⟩, h4⟩, h5⟩, h6⟩, h7⟩, h8⟩, h9⟩ := h
      obtain ⟨ra, na⟩ := sR hc F.s g h8
      obtain ⟨rb, nb⟩ := sR hc F.s g h9
      exact rs_par hc (by rw [F.s.hN]; exact h2.1) (by rw [F.s.hN]; exact h3.1) h1 (F.lk h2.2) (F.lk h3.2) ra rb (star_cons na) (star_cons nb) (swapped_two F h2.2 h3.2 h4 h5 h6 h7 na nb)
    · cases h
  | .par3 i j k a b c', st, h => by
    simp only [mS] at h
    split at h
    · simp only [Bool.and_eq_true, mN, decide_eq_true_eq] at h
      obtain ⟨⟨⟨⟨⟨⟨⟨⟨⟨⟨⟨⟨⟨⟨⟨h1, h2⟩, h3⟩, h4⟩, h5⟩, h6⟩, h7⟩, h8⟩, h9⟩, h10⟩, h11⟩, h12⟩, h13⟩, h14⟩, h15⟩, h16⟩ := h
      obtain ⟨ra, na⟩ := sR hc F.s g h14
      obtain ⟨rb, nb⟩ := sR hc F.s g h15
      obtain ⟨rd, nd⟩ := sR hc F.s g h16
      exact rs_par3 hc (by rw [F.s.hN]; exact h4.1) (by rw [F.s.hN]; exact h5.1) (by rw [F.s.hN]; exact h6.1) h1 h2 h3 (F.lk h4.2) (F.lk h5.2) (F.lk h6.2) ra rb rd (star_cons na) (star_cons nb) (star_cons nd) (swapped_three F h4.2 h5.2 h6.2 h7 h8 h9 h10 h11 (nt h12) (nt h13) na nb nd)
    · cases h
  | .aug i o e, st, h => by
    simp only [mS] at h
    split at h
    · simp only [Bool.and_eq_true, locB, decide_eq_true_eq] at h
      obtain ⟨⟨h1, h2⟩, h3⟩ := h
      subst h1
      obtain ⟨l1, l2⟩ := F.s.loc _ h2.1.2
      exact rs_aug hc (by rw [F.s.hN]; exact h2.1.1) l1 l2 (sE G m e X sc hc F.s g _ h3).1
    · cases h
  | .app i e, st, h => by
    simp only [mS] at h
    split at h
    · simp only [Bool.and_eq_true, decide_eq_true_eq] at h
      obtain ⟨⟨⟨h1, h2⟩, h3⟩, h4⟩ := h
      subst h1
      obtain ⟨n1, n2, n3, n4⟩ := S_vis F.s h2
      exact rs_app n1 n2 n3 n4 (sE G m e X sc hc F.s g _ h4).1 h3 (star_cons fun f p => mE_star h4)
    · cases h
  | .ins i k e, st, h => by
    simp only [mS] at h
    split at h
    · simp only [Bool.and_eq_true, decide_eq_true_eq] at h
      obtain ⟨⟨⟨⟨h1, h2⟩, h3⟩, h4⟩, h5⟩ := h
      subst h1
      obtain ⟨n1, n2, n3, n4⟩ := S_vis F.s h2
      exact rs_ins n1 n2 n3 n4 (sE G m k X sc hc F.s g _ h4).1 (sE G m e X sc hc F.s g _ h5).1 h3 (star_cons fun f p => mE_star h4) (star_cons fun f p => mE_star h5)
    · cases h
  | .put i k e, st, h => by
    simp only [mS] at h
    split at h
    · simp only [Bool.and_eq_true] at h
      obtain ⟨⟨h1, h2⟩, h3⟩ := h
      obtain ⟨n1, n2, n3, n4⟩ := S_vis F.s h1
      exact rs_put (T := G.tups) hc n1 n2 n3 n4 (sE G m e X sc hc F.s g _ h3).1 (sE G m k X sc hc F.s g _ h2).1 swaps_sub
    · cases h
  | .ife t a b, st, h => by
    simp only [mS] at h
    split at h
    · simp only [Bool.and_eq_true] at h
      exact rs_ife (sE G m t X sc hc F.s g _ h.1.1).2 (sSs hc F g a _ h.1.2) (sSs hc F g b _ h.2)
    · cases h
  | .for_ p it body, st, h => by
    simp only [mS] at h
    split at h
    · simp only [Bool.and_eq_true] at h
      obtain ⟨⟨⟨h1, h2⟩, h3⟩, h4⟩ := h
      exact rs_for hc F.po (sI G m it X sc hc F.s g _ _ h2 (by simpa using h1)) (sPz hc F.s h1 h3) (sSs hc F g body _ h4) (fold_of h2)
    · cases h
  | .whl t body, st, h => by
    simp only [mS] at h
    split at h
    · simp only [Bool.and_eq_true] at h
      exact rs_whl F.po (sE G m t X sc hc F.s g _ h.1).2 (sSs hc F g body _ h.2)
    · cases h
  | .ret e, st, h => by
    simp only [mS] at h
    split at h
    · exact rs_ret (sE G m e X sc hc F.s g _ h).1
    · cases h
  | .retN, st, h => by
    simp only [mS] at h
    split at h
    · exact rs_retN
    · cases h
  | .ex e, st, h => by
    simp only [mS] at h
    split at h
    · simp only [Bool.and_eq_true, Bool.not_eq_true'] at h
      exact rs_ex (sE G m e X sc hc F.s g _ h.1).1 (swaps_no h.2)
    · cases h
  | .raise_, st, h => rs_raise
  | .pass, st, h => by
    simp only [mS] at h
    split at h
    · exact rs_pass
    · cases h
  | .brk, st, h => by
    simp only [mS] at h
    split at h
    · exact rs_brk
    · cases h
  | .cont, st, h => by
    simp only [mS] at h
    split at h
    · exact rs_cont
    · cases h
  | .fz i s, st, h => by
    simp only [mS] at h
    exact rs_fz (sS hc F g s st h)
  | .papp p e, st, h => by
    simp only [mS] at h
    split at h
    · simp only [Bool.and_eq_true, decide_eq_true_eq] at h
      obtain ⟨⟨⟨⟨h1, h2⟩, h3⟩, h4⟩, h5⟩ := h
      subst h1
      exact rs_papp (sPth G m p X sc hc F.s g _ h4) (base_of h3) (sE G m e X sc hc F.s g _ h5).1 h2 (star_cons fun f p => mE_star h5)
    · cases h
  | .pput _ _ _, st, h => by simp [mS] at h
  | .paug _ _ _ _, st, h => by simp [mS] at h
  | .sdapp p k e, st, h => by
    simp only [mS] at h
    split at h
    · simp only [Bool.and_eq_true, decide_eq_true_eq] at h
      obtain ⟨⟨⟨⟨⟨⟨⟨h1, h2⟩, h3⟩, h4⟩, h5⟩, h6⟩, h7⟩, h8⟩ := h
      subst h1 h2
      have s1 : ∀ lp, starEach [_, Expr.List [] lp] X.env = _ := fun lp => star_cons (es := [Expr.List [] lp]) (env := X.env) fun f p => mE_star h7 (f := f) (p := p)
      exact rs_sdapp (T := G.tups) hc (sPth G m p X sc hc F.s g _ h6) ⟨base_of h5, by rw [s1]; rfl, by rw [h3]; simp, by rw [s1]; rfl⟩ (sE G m k X sc hc F.s g _ h7).1 (sE G m e X sc hc F.s g _ h8).1 h4 (star_cons fun f p => mE_star h8) rfl
    · cases h
  | .sdput _ _ _ _, st, h => by simp [mS] at h
theorem sSs (hc : Ctx X) (F : Fc X m sc) (g : GOk X G m) : ∀ (s : Ss) (st : List Stmt), mSs m sc s st = true → PSs X st (tS (pX X) X.K H0 (evSs G s))
  | .nil, st, h => by
    cases st with
    | nil => exact rss_nil
    | cons _ _ => simp [mSs] at h
  | .cons s ss, st, h => by
    cases st with
    | nil => simp [mSs] at h
    | cons a r =>
      simp only [mSs, Bool.and_eq_true] at h
      have z := rss_cons (sS hc F g s a h.1) (sSs hc F g ss r h.2)
      have e : evSs G (.cons s ss) = fun ρ => (evS G s ρ).bind (thenO (evSs G ss)) := by
        funext ρ
        rfl
      rw [e]
      exact z
end
end
end PL


set_option Elab.async false
set_option linter.all false
set_option maxRecDepth 100000
/-! PLx: defs, one behind another; what the head tells; a law's end. -/
namespace PL
open PySem PySem.Spec PyProof.Rows L2
structure Df where
  nm : Str
  ps : List Str
  N : List Str
  body : Ss
/-- the defs, the last one first: each one's value by those behind it -/
def fnsOf (cst : Str → Option D) (tups : List D) : List Df → Str → Option (List D → Option D)
  | [], _ => none
  | d :: r, x => if x = d.nm then some (run ⟨fnsOf cst tups r, cst, tups⟩ d.ps.length d.N.length d.body) else fnsOf cst tups r x
theorem run_len {G : Gb} {np nN : Nat} {b : Ss} {ds : List D} {r : D} (h : run G np nN b ds = some r) : ds.length = np := by
  unfold run at h
  split at h
  · assumption
  · cases h
/-- the frame at a def's start -/
theorem start_fr {p : PrW} {K : PySem.W.Frag} {H : Hp} {N : List Str} {ds : List D} {vs : List V} (r : RpA p K H ds vs) (hn : vs.length ≤ N.length) : Fr p K ⟨H, []⟩ H (ds.map Sl.fz ++ List.replicate (N.length - ds.length) Sl.un) (L2.start N vs) := by
  have hl := r.len
  have no : ∀ (i : Nat) (s : Sl), (ds.map Sl.fz ++ List.replicate (N.length - ds.length) Sl.un)[i]? = some s → s.own = true → False := by
    intro i s e o
    by_cases hi : i < ds.length
    · rw [List.getElem?_append_left (by simpa using hi)] at e
      obtain ⟨_, _, z⟩ := map_get e
      subst z
      cases o
    · rw [List.getElem?_append_right (by simpa using Nat.le_of_not_lt hi), List.getElem?_replicate] at e
      split at e
      · cases e
        cases o
      · cases e
  refine ⟨⟨by simp [L2.start, hl], fun i sl e => ?_⟩, Stay.refl H [], fun _ => [], fun i s v e o _ => (no i s e o).elim, fun i s e o => (no i s e o).elim, fun i j s s' _ e _ o _ => (no i s e o).elim⟩
  by_cases hi : i < ds.length
  · rw [List.getElem?_append_left (by simpa using hi)] at e
    obtain ⟨d, e1, e2⟩ := map_get e
    obtain ⟨v, e3, r3⟩ := r.get e1
    subst e2
    refine ⟨some v, ?_, v, rfl, r3⟩
    unfold L2.start
    rw [List.getElem?_append_left (by simpa [hl] using hi), List.getElem?_map, e3]
    rfl
  · rw [List.getElem?_append_right (by simpa using Nat.le_of_not_lt hi), List.getElem?_replicate] at e
    split at e
    · rename_i hlt
      cases e
      refine ⟨none, ?_, trivial⟩
      unfold L2.start
      rw [List.getElem?_append_right (by simpa [hl] using Nat.le_of_not_lt hi), List.getElem?_replicate]
      rw [if_pos (by simpa [hl] using hlt)]
    · cases e
/-- what is known of a def -/
def DfOk (K : PySem.W.Frag) (mg : Str → Option Value) (fr : List Str) (mt : List (Str × Bi)) (d : Df) : Prop :=
  ∃ qual params scope body f fd, FunD K d.nm qual params body scope [] [] f fd ∧ mg d.nm = some (.ref f) ∧ Binds K fd d.ps [] ∧ FnScope d.N d.ps scope ∧ mSs ⟨d.N, fr, mt⟩ scope d.body body = true
/-- the module's constants and names -/
structure MdOk (P : Program) (w : World) (K : PySem.W.Frag) (mg : Str → Option Value)  (cst : Str → Option D) (tups : List D) (fr : List Str) (mt : List (Str × Bi)) : Prop where
  cst : ∀ x d, cst x = some d → ∃ v u, mg x = some u ∧ RelV v u ∧ ∀ H, Rp ⟨P, w, clOf mg⟩ K H d v
  fr : ∀ x, fr.contains x = true → mg x = none
  mt : ∀ x f, mt.lookup x = some f → mg x = some (biVal f)
theorem fn_sc {P : Program} {w : World} {K : PySem.W.Frag} {mg : Str → Option Value} {base : Heap} {N ps : List Str} {qual : Str} {scope : Scope} {f : Addr} {cd : Value} {A : Around} {outer : List Env} {s : Shared} {H : Hp} {E : XK} (S : FnScope N ps scope) (fr : List Str) (mt : List (Str × Bi)) :
    Fc (cxOf CX0 P w K mg base N qual scope f cd A outer s H E).nox ⟨N, fr, mt⟩ scope := by
  refine ⟨⟨rfl, fun x h => ?_, fun x h => ?_, fun x h => ?_, fun x h => h⟩, rfl, S.kind, fun _ => rfl, PySem.PassesOwn.never⟩
  · simp only [knd, Bool.or_eq_true, decide_eq_true_eq] at h
    rcases h with (h | h) | h
    · exact .inl h
    · exact .inr (.inl h)
    · exact .inr (.inr h)
  · simp only [knd, Bool.or_eq_true, decide_eq_true_eq] at h
    rcases h with h | h
    · exact ⟨.inl h, .inl rfl⟩
    · exact ⟨.inr h, .inl rfl⟩
  · simp only [knd, decide_eq_true_eq] at h
    exact h
theorem df_ok {P : Program} {w : World} {K : PySem.W.Frag} {mg : Str → Option Value} {base : Heap} {cst : Str → Option D} {tups : List D} {fr : List Str} {mt : List (Str × Bi)} {fns : Str → Option (List D → Option D)} {k : Nat} (M : MdOk P w K mg cst tups fr mt)
    (fo : ∀ x F, fns x = some F → ∃ f fdt ps n, FnOk P w K mg base CX0 k f fdt ps (spP ⟨P, w, clOf mg⟩ K n F) ∧ mg x = some (.ref f) ∧ PySem.W.keepIn K (.ref f) = true ∧ Binds K fdt ps [] ∧ ∀ ds r, F ds = some r → ds.length = n) {d : Df} {qual : Str} {params : Arguments} {scope : Scope} {body : List Stmt} {f : Addr} {fd : FuncData}
    (F : FunD K d.nm qual params body scope [] [] f fd) (S : FnScope d.N d.ps scope) (hm : mSs ⟨d.N, fr, mt⟩ scope d.body body = true) : FnOk P w K mg base CX0 (k + 1) f fd d.ps (spP ⟨P, w, clOf mg⟩ K d.ps.length (run ⟨fns, cst, tups⟩ d.ps.length d.N.length d.body)) := by
  refine F.ok S (fun vs H Q E h => h.1) fun cdv A outer s H vs Q E hr ⟨hl, ds, r, rp, hf, q⟩ => ?_
  refine ⟨tS ⟨P, w, clOf mg⟩ K ⟨H, []⟩ (evSs ⟨fns, cst, tups⟩ d.body), PSs.nox (sSs (X := (cxOf CX0 P w K mg base d.N qual scope f cdv A outer s H E).nox) (H0 := ⟨H, []⟩) (m := ⟨d.N, fr, mt⟩) (sc := scope) (G := ⟨fns, cst, tups⟩) ⟨rfl, S.nd, ?_⟩ (fn_sc S fr mt) ⟨fun x F' hx => ?_, M.cst, M.fr, M.mt⟩ d.body body hm), ?_⟩
  · have := hr.un
    show (A.deeper (envOfC qual scope s.heap.objs.size f cdv)).units + 70 < cLine
    omega
  · obtain ⟨f', fdt, ps', n, h1, h2, h3, h4, h5⟩ := fo x F' hx
    exact ⟨f', fdt, ps', k, n, h1, hr, h2, h3, h4, h5⟩
  · have hd := run_len hf
    unfold run at hf
    rw [if_pos hd] at hf
    obtain ⟨o, e1, e2⟩ := bnd hf
    have hN : vs.length ≤ d.N.length := by
      have h1 : (d.N.take d.ps.length).length = d.ps.length := by rw [S.pre]
      rw [List.length_take] at h1
      rw [hl]
      omega
    rw [← hd] at e1
    refine ⟨_, o, start_fr rp hN, e1, ?_⟩
    cases o with
    | rt x =>
      cases e2
      exact fun v H' _ sm r' => q v H' sm.all r'
    | nx ρ =>
      cases e2
      exact fun σ' H' _ F' => q .non H' F'.stay.all (by simp only [Rp])
    | bk ρ => cases e2
    | ct ρ => cases e2
theorem dfs_ok {P : Program} {w : World} {K : PySem.W.Frag} {mg : Str → Option Value} {base : Heap} {cst : Str → Option D} {tups : List D} {fr : List Str} {mt : List (Str × Bi)} (M : MdOk P w K mg cst tups fr mt) :
    ∀ L : List Df, (∀ d ∈ L, DfOk K mg fr mt d) → ∀ x F, fnsOf cst tups L x = some F → ∃ f fdt ps n, FnOk P w K mg base CX0 L.length f fdt ps (spP ⟨P, w, clOf mg⟩ K n F) ∧ mg x = some (.ref f) ∧ PySem.W.keepIn K (.ref f) = true ∧ Binds K fdt ps [] ∧ ∀ ds r, F ds = some r → ds.length = n
  | [], _, x, F, h => by cases h
  | d :: L, hL, x, F, h => by
    have ih := dfs_ok (base := base) M L fun e he => hL e (List.mem_cons_of_mem _ he)
    simp only [fnsOf] at h
    split at h
    · rename_i ex
      cases h
      subst ex
      obtain ⟨qual, params, scope, body, f, fd, h1, h2, h3, h4, h5⟩ := hL d List.mem_cons_self
      exact ⟨f, fd, d.ps, d.ps.length, df_ok M ih h1 h4 h5, h2, h1.kp, h3, fun ds r hr => run_len hr⟩
    · obtain ⟨f, fdt, ps, n, h1, h2, h3, h4, h5⟩ := ih x F h
      exact ⟨f, fdt, ps, n, h1.mono (Nat.le_succ _), h2, h3, h4, h5⟩
end PL


set_option Elab.async false
set_option linter.all false
set_option maxRecDepth 100000
set_option maxHeartbeats 2000000
/-! PLy: what the head tells of constants; a law's end. -/
namespace PL
open PySem PySem.Spec PyProof.Rows L2
/-- a module's constant -/
inductive Cv | int (i : Int) | str (x : Str) | tup (ks : List Key)
def Cv.d : Cv → D
  | .int i => .int i
  | .str x => .str x
  | .tup ks => .tuple (ks.map keyD)
def Cv.okB (K : PySem.W.Frag) (x : Str) : Cv → Bool
  | .int i => (He.Fa.int x i).ok K
  | .str z => (He.Fa.str x z).ok K
  | .tup ks => (He.Fa.glo x).ok K && (match K.lookup (He.ga K x) with
    | some ⟨.type c, none, .seq its _, _⟩ => decide (c = "tuple") && (decide (its.size ≤ sizeLine) && He.relAll (ks.map kV) its.toList)
    | _ => false)
def biB (K : PySem.W.Frag) (x : Str) (f : Bi) : Bool := He.eqO (PySem.W.nsIn K mainGlobals x) (some (some (biVal f)))
/-- what the head observes: facts by names, constants, the names of built-in functions, the defs -/
def obsP (fa : List He.Fa) (cs : List (Str × Cv)) (mt : List (Str × Bi)) (fn : List He.DefD) (K : PySem.W.Frag) : He.AlD :=
  ((fa.all (fun f => f.ok K) && (cs.all (fun q => q.2.okB K q.1) && mt.all fun q => biB K q.1 q.2)) && fn.all (fun d => d.ok K), fn.map fun d => He.fnW K d.at_)
def SaysP (fa : List He.Fa) (cs : List (Str × Cv)) (mt : List (Str × Bi)) (fn : List He.DefD) (K : PySem.W.Frag) : Prop := obsP fa cs mt fn K = He.valD fn
def obsPG (n : Nat) (fa : List He.Fa) (cs : List (Str × Cv)) (mt : List (Str × Bi)) (fn : List He.DefD) (g : Addr → Option Obj) : He.AlD := obsP fa cs mt fn (He.frG g (He.asD g n))
def hookP (n : Nat) (fa : List He.Fa) (cs : List (Str × Cv)) (mt : List (Str × Bi)) (fn : List He.DefD) : PySem.W.Hook where
  α := He.AlD
  obs := fun s => obsPG n fa cs mt fn s.heap.get?
  val := fun _ => He.valD fn
  says := fun _ h => ∃ K : PySem.W.Frag, K.In h ∧ SaysP fa cs mt fn K
  of := fun _ _ e => ⟨_, He.frG_in, e⟩
  keeps := fun _ _ _ ⟨K, hK, c⟩ k => ⟨K, PySem.W.Frag.In.keeps hK k, c⟩
theorem obsPG_eq {n : Nat} {fa : List He.Fa} {cs : List (Str × Cv)} {mt : List (Str × Bi)} {fn : List He.DefD} {g : Addr → Option Obj} {s : Shared} (h : ∀ a, g a = s.heap.get? a) : obsPG n fa cs mt fn g = (hookP n fa cs mt fn).obs s := by
  have e : g = s.heap.get? := funext h
  rw [e] <;> rfl
section
variable {fa : List He.Fa} {cs : List (Str × Cv)} {mt : List (Str × Bi)} {fn : List He.DefD} {K : PySem.W.Frag}
theorem SaysP.all (c : SaysP fa cs mt fn K) : (∀ f ∈ fa, f.ok K = true) ∧ (∀ q ∈ cs, q.2.okB K q.1 = true) ∧ (∀ q ∈ mt, biB K q.1 q.2 = true) ∧ ∀ d ∈ fn, ∃ fd, FunD K d.name d.qual d.params d.body d.scope (d.dvs K) (d.kws K) (He.fAd K d.at_) fd := by
  have c1 : ((fa.all (fun f => f.ok K) && (cs.all (fun q => q.2.okB K q.1) && mt.all fun q => biB K q.1 q.2)) && fn.all (fun d => d.ok K)) = true := congrArg (fun z : He.AlD => z.1) c
  have c2 : fn.map (fun d => He.fnW K d.at_) = fn.map He.DefD.val := congrArg (fun z : He.AlD => z.2) c
  simp only [Bool.and_eq_true, List.all_eq_true] at c1
  refine ⟨c1.1.1, c1.1.2.1, c1.1.2.2, fun d hd => ?_⟩
  have hv : He.fnW K d.at_ = d.val := by
    obtain ⟨i, hi⟩ := List.getElem?_of_mem hd
    have e := congrArg (fun l => l[i]?) c2
    simp only [List.getElem?_map, hi, Option.map_some, Option.some.injEq] at e
    exact e
  exact He.DefD.funD hv (c1.2 d hd)
def cstOf (cs : List (Str × Cv)) (x : Str) : Option D := (cs.lookup x).map Cv.d
theorem tup_ok {x : Str} {ks : List Key} (h : Cv.okB K x (.tup ks) = true) : ∃ (o : Obj) (its : Array Value) (n : Nat), K.lookup (He.ga K x) = some o ∧ o.cls = .type "tuple" ∧ o.dict = none ∧ o.data = .seq its n ∧ its.size ≤ sizeLine ∧ Vals (ks.map kV) its.toList := by
  simp only [Cv.okB, Bool.and_eq_true] at h
  obtain ⟨_, h⟩ := h
  split at h
  · rename_i c its n sl e
    simp only [Bool.and_eq_true, decide_eq_true_eq] at h
    obtain ⟨h1, h2, h3⟩ := h
    exact ⟨_, its, n, e, by rw [h1], rfl, rfl, h2, He.relAll_ok h3⟩
  · cases h
theorem lookup_mem {α : Type} : ∀ {l : List (Str × α)} {x : Str} {a : α}, l.lookup x = some a → (x, a) ∈ l
  | [], x, a, h => by cases h
  | (y, b) :: r, x, a, h => by
    rw [List.lookup_cons] at h
    by_cases e : x == y
    · simp only [e, Option.some.injEq] at h
      rw [eq_of_beq e, h]
      exact List.mem_cons_self
    · simp only [e] at h
      exact List.mem_cons_of_mem _ (lookup_mem h)
theorem rpA_keyD {p : PrW} {H : Hp} : ∀ ks : List Key, RpA p K H (ks.map keyD) (ks.map kV)
  | [] => by simp only [List.map_nil, RpA]
  | .inl i :: r => by
    simp only [List.map_cons, RpA]
    exact ⟨.int i, _, rfl, rpInt.mpr rfl, rpA_keyD r⟩
  | .inr x :: r => by
    simp only [List.map_cons, RpA]
    exact ⟨.str x, _, rfl, rpStr.mpr rfl, rpA_keyD r⟩
/-- all that the defs lean on, from what the head tells -/
theorem md_ok {P : Program} {w : World} {h : Heap} {mg : Str → Option Value} {fr : List Str} (KX : K.In h) (G : h.Ns mainGlobals mg) (c : SaysP fa cs mt fn K) (hfr : ∀ x, fr.contains x = true → He.Fa.free x ∈ fa) : MdOk P w K mg (cstOf cs) [] fr mt := by
  obtain ⟨c1, c2, c3, c4⟩ := c.all
  refine ⟨fun x d e => ?_, fun x e => He.free_ok KX G (c1 _ (hfr x e)), fun x f e => ?_⟩
  · obtain ⟨cv, e1, e2⟩ := mpd e
    subst e2
    have k := c2 _ (lookup_mem e1)
    cases cv with
    | int i =>
      obtain ⟨t, ht⟩ := He.int_ok KX G (x := x) (i := i) k
      exact ⟨.int i, _, ht, ⟨t, rfl⟩, fun H => rpInt.mpr rfl⟩
    | str z =>
      obtain ⟨t, ht⟩ := He.str_ok KX G (x := x) (z := z) k
      exact ⟨.str z, _, ht, ⟨t, rfl⟩, fun H => rpStr.mpr rfl⟩
    | tup ks =>
      have hg : (He.Fa.glo x).ok K = true := by
        simp only [Cv.okB, Bool.and_eq_true] at k
        exact k.1
      refine ⟨.ref (He.ga K x), _, He.glo_ok KX G hg, rfl, fun H => ?_⟩
      exact rpTup.mpr ⟨_, _, rfl, .inr (tup_ok k), rpA_keyD ks⟩
  · exact PySem.W.mg_of KX G (He.eqO_ok (c3 _ (lookup_mem e)))
end
/-- a law's end: the script as a list, its numbers' bits told -/
theorem walk_PL {l : PySem.W.OpenLaw} {n k : Nat} {q : Program} {loose : List Str} {XP : (Str → Option Value) → Heap → Prop} {YP : World → Heap → Prop} {d : DefRec} {x : Str} (hn : l.most = some n) (hn2 : n ≤ sizeLine) (hdf : d.params.defaults = []) (hr : Room k callerA)
    (F : ∀ (w : World) (mg : Str → Option Value) (fa : Addr) (h : Heap), YP w h → h.Ns mainGlobals mg → mg d.name = some (.ref fa) → ∃ (K : PySem.W.Frag) (fd : FuncData) (f : List D → Option D), K.In h ∧ (∀ (s : Shared) (u : Value), BindsTo s fd ⟨[u], []⟩ [(x, u)]) ∧
      (∀ base : Heap, K.In base → base.Ns mainGlobals mg → FnOk l.prog w K mg base CX0 k fa fd [x] (spP ⟨l.prog, w, clOf mg⟩ K 1 f)) ∧ ∀ ns : List Int, ns.length ≤ n → (∀ z ∈ ns, Builtin.Int.intBits z ≤ 1048576) → f [.list (ns.map PyData.int)] = some (.bool true)) :
    PySem.W.WalkO q loose XP YP l.row.toRowW d [] (fun f vs => PySem.call f vs) := by
  refine Att.attach_callB hn hdf fun w s₀ s₁ mg mb fa o pm cd doc a vs ns G Y ho hd hcd hmg hobj hints hlen hbits hg => ?_
  obtain ⟨K, fd, f, KX, hb, hF, hm⟩ := F w mg fa _ Y G.T.g hmg
  refine law_call KX G.T.g G.T.b G.T.builtins G.T.nolimit hg hobj hints (Nat.le_trans hlen hn2) hr hF hb (fun H hO hS => ⟨rfl, [.list (ns.map PyData.int)], .bool true, .cons (rpLst.mpr ⟨a, ns.map V.int, rfl, ?_, rpa_of_ints ns⟩) .nil, hm ns hlen hbits, fun v H' _ r => rpBool.mp r⟩) fun H e s' z => z.elim
  rcases hS with hS | ⟨ob, its, m, h1, h2, h3, h4, h5, h6⟩
  · rcases hS with hS | hS
    · rcases hO a with z | ⟨o', ys, z⟩
      · rw [hS] at z; cases z
      · rw [hS] at z; cases z
    · exact .inl hS
  · have e := KX a ob h1
    rw [hobj] at e
    cases e
    cases h4
    exact .inr ⟨vs.toArray, _, h1, h5, h6⟩
end PL


set_option Elab.async false
set_option linter.all false
set_option maxRecDepth 100000
set_option maxHeartbeats 0
namespace K03
open PySem PySem.Spec PyProof.Rows L2 PL
def top (i : Nat) : Stmt := PySem.Challenge.pw_rowhidden_k03_main_greatest_ratios_go_al.main.body.getD i (.Pass ⟨0, 0, 0, 0⟩)
def mkD (n : Str) (i : Nat) : He.DefD := ⟨(n, none), n, n, defArgs (top i), defBody (top i), defScope (top i), [], []⟩
def b_is_integer : Ss := (.cons (.ret (.and_ (.isi (.v 0) "int") (.not_ (.isi (.v 0) "bool")))) .nil)
def f_is_integer : Df := ⟨"is_integer", ["value"], ["value"], b_is_integer⟩
def b_is_fraction : Ss := (.cons (.ife (.or_ (.not_ (.isi (.v 0) "tuple")) (.or_ (.cmp .ne (.bi .len (.cons (.v 0) .nil)) (.int 2)) (.not_ (.bi .all (.cons (.lc [1] (.call "is_integer" (.cons (.v 1) .nil)) (.v 1) (.seq (.v 0)) .non) .nil))))) (.cons (.ret (.bl false)) .nil) .nil) (.cons (.ret (.and_ (.cmp .ge (.ix (.v 0) (.int 1)) (.int 1)) (.cmp .eq (.bi .gcd (.cons (.ix (.v 0) (.int 0)) (.cons (.ix (.v 0) (.int 1)) .nil))) (.int 1)))) .nil))
def f_is_fraction : Df := ⟨"is_fraction", ["value"], ["value", "one"], b_is_fraction⟩
def b_least_pair : Ss := (.cons (.asg (.v 2) (.bi .gcd (.cons (.v 0) (.cons (.v 1) .nil)))) (.cons (.ife (.cmp .lt (.v 1) (.int 0)) (.cons (.asg (.v 2) (.op .sub (.int 0) (.v 2))) .nil) .nil) (.cons (.ret (.tup (.cons (.op .fdiv (.v 0) (.v 2)) (.cons (.op .fdiv (.v 1) (.v 2)) .nil)))) .nil)))
def f_least_pair : Df := ⟨"least_pair", ["above", "below"], ["above", "below", "common"], b_least_pair⟩
def b_plus : Ss := (.cons (.ret (.call "least_pair" (.cons (.op .add (.op .mul (.ix (.v 0) (.int 0)) (.ix (.v 1) (.int 1))) (.op .mul (.ix (.v 1) (.int 0)) (.ix (.v 0) (.int 1)))) (.cons (.op .mul (.ix (.v 0) (.int 1)) (.ix (.v 1) (.int 1))) .nil)))) .nil)
def f_plus : Df := ⟨"plus", ["one", "other"], ["one", "other"], b_plus⟩
def b_minus : Ss := (.cons (.ret (.call "least_pair" (.cons (.op .sub (.op .mul (.ix (.v 0) (.int 0)) (.ix (.v 1) (.int 1))) (.op .mul (.ix (.v 1) (.int 0)) (.ix (.v 0) (.int 1)))) (.cons (.op .mul (.ix (.v 0) (.int 1)) (.ix (.v 1) (.int 1))) .nil)))) .nil)
def f_minus : Df := ⟨"minus", ["one", "other"], ["one", "other"], b_minus⟩
def b_times : Ss := (.cons (.ret (.call "least_pair" (.cons (.op .mul (.ix (.v 0) (.int 0)) (.ix (.v 1) (.int 0))) (.cons (.op .mul (.ix (.v 0) (.int 1)) (.ix (.v 1) (.int 1))) .nil)))) .nil)
def f_times : Df := ⟨"times", ["one", "other"], ["one", "other"], b_times⟩
def b_is_less : Ss := (.cons (.ret (.cmp .lt (.op .mul (.ix (.v 0) (.int 0)) (.ix (.v 1) (.int 1))) (.op .mul (.ix (.v 1) (.int 0)) (.ix (.v 0) (.int 1))))) .nil)
def f_is_less : Df := ⟨"is_less", ["one", "other"], ["one", "other"], b_is_less⟩
def b_greater_of : Ss := (.cons (.ret (.ite (.call "is_less" (.cons (.v 0) (.cons (.v 1) .nil))) (.v 1) (.v 0))) .nil)
def f_greater_of : Df := ⟨"greater_of", ["one", "other"], ["one", "other"], b_greater_of⟩
def b_sum_up : Ss := (.cons (.asg (.v 1) (.g "NOUGHT")) (.cons (.for_ (.v 2) (.seq (.v 0)) (.cons (.asg (.v 1) (.call "plus" (.cons (.v 1) (.cons (.v 2) .nil)))) .nil)) (.cons (.ret (.v 1)) .nil)))
def f_sum_up : Df := ⟨"sum_up", ["shares"], ["shares", "total", "share"], b_sum_up⟩
def b_is_value : Ss := (.cons (.ret (.or_ (.call "is_integer" (.cons (.v 0) .nil)) (.and_ (.isi (.v 0) "tuple") (.bi .all (.cons (.lc [1] (.call "is_integer" (.cons (.v 1) .nil)) (.v 1) (.seq (.v 0)) .non) .nil))))) .nil)
def f_is_value : Df := ⟨"is_value", ["value"], ["value", "one"], b_is_value⟩
def b_is_row : Ss := (.cons (.ret (.isi (.v 0) "tuple")) .nil)
def f_is_row : Df := ⟨"is_row", ["value"], ["value"], b_is_row⟩
def b_are_of_one_sort : Ss := (.cons (.ret (.cmp .lt (.bi .len (.cons (.dc [1] (.call "is_row" (.cons (.v 1) .nil)) (.bl true) (.v 1) (.seq (.v 0)) .non) .nil)) (.int 2))) .nil)
def f_are_of_one_sort : Df := ⟨"are_of_one_sort", ["values"], ["values", "one"], b_are_of_one_sort⟩
def b__is_weighed : Ss := (.cons (.ret (.and_ (.isi (.v 0) "tuple") (.and_ (.cmp .eq (.bi .len (.cons (.v 0) .nil)) (.int 2)) (.and_ (.call "is_value" (.cons (.ix (.v 0) (.int 0)) .nil)) (.and_ (.call "is_integer" (.cons (.ix (.v 0) (.int 1)) .nil)) (.cmp .ge (.ix (.v 0) (.int 1)) (.int 1))))))) .nil)
def f__is_weighed : Df := ⟨"_is_weighed", ["row"], ["row"], b__is_weighed⟩
def b_common_of : Ss := (.cons (.asg (.v 1) (.int 0)) (.cons (.for_ (.v 2) (.seq (.v 0)) (.cons (.asg (.v 1) (.bi .gcd (.cons (.v 1) (.cons (.v 2) .nil)))) .nil)) (.cons (.ret (.v 1)) .nil)))
def f_common_of : Df := ⟨"common_of", ["numbers"], ["numbers", "found", "number"], b_common_of⟩
def b_spread_fault : Ss := (.cons (.ife (.or_ (.not_ (.isi (.v 0) "tuple")) (.or_ (.cmp .ne (.bi .len (.cons (.v 0) .nil)) (.int 2)) (.not_ (.call "is_integer" (.cons (.ix (.v 0) (.int 0)) .nil))))) (.cons (.ret (.g "FORM")) .nil) .nil) (.cons (.asg (.cons (.v 1) (.cons (.v 2) .nil)) (.v 0)) (.cons (.ife (.or_ (.not_ (.isi (.v 2) "tuple")) (.not_ (.chain .le .le (.int 1) (.bi .len (.cons (.v 2) .nil)) (.g "MOST_VALUES")))) (.cons (.ret (.g "FORM")) .nil) .nil) (.cons (.for_ (.cons (.v 3) (.cons (.v 4) .nil)) (.enum (.v 2)) (.cons (.ife (.or_ (.not_ (.call "_is_weighed" (.cons (.v 4) .nil))) (.cmp .ne (.call "is_row" (.cons (.ix (.v 4) (.int 0)) .nil)) (.call "is_row" (.cons (.ix (.ix (.v 2) (.int 0)) (.int 0)) .nil)))) (.cons (.ret (.tup (.cons (.str "row") (.cons (.v 3) .nil)))) .nil) .nil) (.cons (.ife (.and_ (.cmp .gt (.v 3) (.int 0)) (.not_ (.cmp .lt (.ix (.ix (.v 2) (.op .sub (.v 3) (.int 1))) (.int 0)) (.ix (.v 4) (.int 0))))) (.cons (.ret (.tup (.cons (.str "row") (.cons (.v 3) .nil)))) .nil) .nil) .nil))) (.cons (.asg (.v 5) (.lc [6, 7] (.v 7) (.cons (.v 6) (.cons (.v 7) .nil)) (.seq (.v 2)) .non)) (.cons (.ife (.cmp .ne (.bi .sum (.cons (.v 5) .nil)) (.v 1)) (.cons (.ret (.tup (.cons (.str "sum") .nil))) .nil) .nil) (.cons (.ret (.ite (.cmp .gt (.call "common_of" (.cons (.v 5) .nil)) (.int 1)) (.tup (.cons (.str "least") .nil)) .non)) .nil)))))))
def f_spread_fault : Df := ⟨"spread_fault", ["value"], ["value", "below", "rows", "number", "row", "weights", "_value", "weight"], b_spread_fault⟩
def b_check_spread : Ss := (.cons (.ife (.notN (.call "spread_fault" (.cons (.v 0) .nil))) (.cons .raise_ .nil) .nil) .nil)
def f_check_spread : Df := ⟨"check_spread", ["value"], ["value"], b_check_spread⟩
def b_spread_of_weights : Ss := (.cons (.asg (.v 1) (.dc [4, 5] (.v 4) (.v 5) (.cons (.v 4) (.cons (.v 5) .nil)) (.items (.v 0)) (.some (.cmp .gt (.v 5) (.int 0))))) (.cons (.ife (.cmp .gt (.bi .len (.cons (.v 1) .nil)) (.g "MOST_VALUES")) (.cons .raise_ .nil) .nil) (.cons (.asg (.v 2) (.call "common_of" (.cons (.lvals (.v 1)) .nil))) (.cons (.asg (.v 3) (.bi .tuple (.cons (.lc [4] (.tup (.cons (.v 4) (.cons (.op .fdiv (.ix (.v 1) (.v 4)) (.v 2)) .nil))) (.v 4) (.seq (.bi .sorted (.cons (.v 1) .nil))) .non) .nil))) (.cons (.ret (.tup (.cons (.bi .sum (.cons (.lc [6, 5] (.v 5) (.cons (.v 6) (.cons (.v 5) .nil)) (.seq (.v 3)) .non) .nil)) (.cons (.v 3) .nil)))) .nil)))))
def f_spread_of_weights : Df := ⟨"spread_of_weights", ["weights"], ["weights", "found", "common", "rows", "value", "weight", "_value"], b_spread_of_weights⟩
def b_spread_by : Ss := (.cons (.asg (.v 1) (.int 1)) (.cons (.for_ (.v 2) (.vals (.v 0)) (.cons (.asg (.v 1) (.bi .lcm (.cons (.v 1) (.cons (.ix (.v 2) (.int 1)) .nil)))) .nil)) (.cons (.ret (.call "spread_of_weights" (.cons (.dc [3, 2] (.v 3) (.op .mul (.ix (.v 2) (.int 0)) (.op .fdiv (.v 1) (.ix (.v 2) (.int 1)))) (.cons (.v 3) (.cons (.v 2) .nil)) (.items (.v 0)) .non) .nil))) .nil)))
def f_spread_by : Df := ⟨"spread_by", ["shares"], ["shares", "whole", "share", "value"], b_spread_by⟩
def b_are_pairs : Ss := (.cons (.ret (.and_ (.isi (.v 0) "tuple") (.bi .all (.cons (.lc [1] (.and_ (.isi (.v 1) "tuple") (.cmp .eq (.bi .len (.cons (.v 1) .nil)) (.int 2))) (.v 1) (.seq (.v 0)) .non) .nil)))) .nil)
def f_are_pairs : Df := ⟨"are_pairs", ["value"], ["value", "one"], b_are_pairs⟩
def b_is_chance : Ss := (.cons (.ret (.and_ (.call "is_fraction" (.cons (.v 0) .nil)) (.cmp .ge (.ix (.v 0) (.int 0)) (.int 0)))) .nil)
def f_is_chance : Df := ⟨"is_chance", ["value"], ["value"], b_is_chance⟩
def b_shares_of : Ss := (.cons (.ret (.dc [1, 2] (.v 1) (.call "least_pair" (.cons (.v 2) (.cons (.ix (.v 0) (.int 0)) .nil))) (.cons (.v 1) (.cons (.v 2) .nil)) (.seq (.ix (.v 0) (.int 1))) .non)) .nil)
def f_shares_of : Df := ⟨"shares_of", ["spread"], ["spread", "value", "weight"], b_shares_of⟩
def b_chance_of : Ss := (.cons (.ex (.call "check_spread" (.cons (.v 0) .nil))) (.cons (.ife (.not_ (.call "is_value" (.cons (.v 1) .nil))) (.cons (.ret (.g "NOUGHT")) .nil) .nil) (.cons (.ret (.get (.call "shares_of" (.cons (.v 0) .nil)) (.v 1) (.g "NOUGHT"))) .nil)))
def f_chance_of : Df := ⟨"chance_of", ["spread", "value"], ["spread", "value"], b_chance_of⟩
def b__by_values : Ss := (.cons (.ife (.or_ (.not_ (.call "are_pairs" (.cons (.v 1) .nil))) (.not_ (.bi .all (.cons (.lc [3] (.call "is_value" (.cons (.ix (.v 3) (.int 0)) .nil)) (.v 3) (.seq (.v 1)) .non) .nil)))) (.cons .raise_ .nil) .nil) (.cons (.asg (.v 2) (.bi .dict (.cons (.v 1) .nil))) (.cons (.ife (.or_ (.cmp .lt (.bi .len (.cons (.v 2) .nil)) (.bi .len (.cons (.v 1) .nil))) (.not_ (.bi .all (.cons (.lc [4, 5] (.cmp .isin (.v 4) (.v 2)) (.cons (.v 4) (.cons (.v 5) .nil)) (.seq (.ix (.v 0) (.int 1))) .non) .nil)))) (.cons .raise_ .nil) .nil) (.cons (.ret (.v 2)) .nil))))
def f__by_values : Df := ⟨"_by_values", ["spread", "pairs"], ["spread", "pairs", "found", "one", "value", "_weight"], b__by_values⟩
def b_mapped : Ss := (.cons (.ex (.call "check_spread" (.cons (.v 0) .nil))) (.cons (.asg (.v 2) (.call "_by_values" (.cons (.v 0) (.cons (.v 1) .nil)))) (.cons (.ife (.or_ (.not_ (.bi .all (.cons (.lc [6] (.call "is_value" (.cons (.v 6) .nil)) (.v 6) (.vals (.v 2)) .non) .nil))) (.not_ (.call "are_of_one_sort" (.cons (.lvals (.v 2)) .nil)))) (.cons .raise_ .nil) .nil) (.cons (.new 3 .nd) (.cons (.for_ (.cons (.v 4) (.cons (.v 5) .nil)) (.seq (.ix (.v 0) (.int 1))) (.cons (.put 3 (.ix (.v 2) (.v 4)) (.op .add (.oget 3 (.ix (.v 2) (.v 4)) (.int 0)) (.v 5))) .nil)) (.cons (.fz 3 (.ret (.call "spread_of_weights" (.cons (.v 3) .nil)))) .nil))))))
def f_mapped : Df := ⟨"mapped", ["spread", "pairs"], ["spread", "pairs", "news", "found", "value", "weight", "one"], b_mapped⟩
def b_mixed : Ss := (.cons (.ife (.or_ (.not_ (.call "are_pairs" (.cons (.v 0) .nil))) (.not_ (.bi .all (.cons (.lc [2, 3] (.and_ (.call "is_chance" (.cons (.v 2) .nil)) (.isN (.call "spread_fault" (.cons (.v 3) .nil)))) (.cons (.v 2) (.cons (.v 3) .nil)) (.seq (.v 0)) .non) .nil)))) (.cons .raise_ .nil) .nil) (.cons (.ife (.or_ (.not_ (.call "are_of_one_sort" (.cons (.lc [6, 3] (.ix (.ix (.ix (.v 3) (.int 1)) (.int 0)) (.int 0)) (.cons (.v 6) (.cons (.v 3) .nil)) (.seq (.v 0)) .non) .nil))) (.cmp .ne (.call "sum_up" (.cons (.lc [2, 7] (.v 2) (.cons (.v 2) (.cons (.v 7) .nil)) (.seq (.v 0)) .non) .nil)) (.g "ONE"))) (.cons .raise_ .nil) .nil) (.cons (.new 1 .nd) (.cons (.for_ (.cons (.v 2) (.cons (.v 3) .nil)) (.seq (.v 0)) (.cons (.for_ (.cons (.v 4) (.cons (.v 5) .nil)) (.items (.call "shares_of" (.cons (.v 3) .nil))) (.cons (.put 1 (.v 4) (.call "plus" (.cons (.oget 1 (.v 4) (.g "NOUGHT")) (.cons (.call "times" (.cons (.v 2) (.cons (.v 5) .nil))) .nil)))) .nil)) .nil)) (.cons (.fz 1 (.ret (.call "spread_by" (.cons (.v 1) .nil)))) .nil)))))
def f_mixed : Df := ⟨"mixed", ["pairs"], ["pairs", "found", "share", "own", "value", "chance", "_share", "_own"], b_mixed⟩
def b_ratios_of : Ss := (.cons (.par 2 3 (.ex (.bi .dict (.cons (.ix (.v 1) (.int 1)) .nil))) .nd) (.cons (.for_ (.cons (.v 4) (.cons (.v 5) .nil)) (.seq (.ix (.v 0) (.int 1))) (.cons (.ife (.cmp .isin (.v 4) (.v 2)) (.cons (.put 3 (.v 4) (.call "least_pair" (.cons (.op .mul (.v 5) (.ix (.v 1) (.int 0))) (.cons (.op .mul (.ix (.v 2) (.v 4)) (.ix (.v 0) (.int 0))) .nil)))) .nil) (.cons (.put 3 (.v 4) .non) .nil)) .nil)) (.cons (.fz 3 (.ret (.v 3))) .nil)))
def f_ratios_of : Df := ⟨"ratios_of", ["one", "other"], ["one", "other", "others", "found", "value", "weight"], b_ratios_of⟩
def b_ratio_by : Ss := (.cons (.asg (.v 2) (.g "NOUGHT")) (.cons (.for_ (.v 3) (.vals (.call "ratios_of" (.cons (.v 0) (.cons (.v 1) .nil)))) (.cons (.ife (.isN (.v 3)) (.cons (.ret .non) .nil) .nil) (.cons (.asg (.v 2) (.call "greater_of" (.cons (.v 2) (.cons (.v 3) .nil)))) .nil))) (.cons (.ret (.v 2)) .nil)))
def f_ratio_by : Df := ⟨"ratio_by", ["one", "other"], ["one", "other", "found", "ratio"], b_ratio_by⟩
def b__check_both : Ss := (.cons (.ex (.call "check_spread" (.cons (.v 0) .nil))) (.cons (.ex (.call "check_spread" (.cons (.v 1) .nil))) .nil))
def f__check_both : Df := ⟨"_check_both", ["one", "other"], ["one", "other"], b__check_both⟩
def b_greatest_ratio : Ss := (.cons (.ex (.call "_check_both" (.cons (.v 0) (.cons (.v 1) .nil)))) (.cons (.ret (.call "ratio_by" (.cons (.v 0) (.cons (.v 1) .nil)))) .nil))
def f_greatest_ratio : Df := ⟨"greatest_ratio", ["one", "other"], ["one", "other"], b_greatest_ratio⟩
def b_ratio_at : Ss := (.cons (.ex (.call "_check_both" (.cons (.v 0) (.cons (.v 1) .nil)))) (.cons (.asg (.v 2) (.call "ratio_by" (.cons (.v 0) (.cons (.v 1) .nil)))) (.cons (.ret (.ix (.lc [3, 4] (.v 3) (.cons (.v 3) (.cons (.v 4) .nil)) (.items (.call "ratios_of" (.cons (.v 0) (.cons (.v 1) .nil)))) (.some (.cmp .eq (.v 4) (.v 2)))) (.int 0))) .nil)))
def f_ratio_at : Df := ⟨"ratio_at", ["one", "other"], ["one", "other", "most", "value", "ratio"], b_ratio_at⟩
def b_lefts_of : Ss := (.cons (.par 3 4 (.ex (.call "shares_of" (.cons (.v 1) .nil))) .nd) (.cons (.for_ (.cons (.v 5) (.cons (.v 6) .nil)) (.items (.call "shares_of" (.cons (.v 0) .nil))) (.cons (.asg (.v 7) (.call "times" (.cons (.v 2) (.cons (.get (.v 3) (.v 5) (.g "NOUGHT")) .nil)))) (.cons (.ife (.call "is_less" (.cons (.v 7) (.cons (.v 6) .nil))) (.cons (.put 4 (.v 5) (.call "minus" (.cons (.v 6) (.cons (.v 7) .nil)))) .nil) .nil) .nil))) (.cons (.fz 4 (.ret (.v 4))) .nil)))
def f_lefts_of : Df := ⟨"lefts_of", ["one", "other", "ratio"], ["one", "other", "ratio", "others", "found", "value", "share", "taken"], b_lefts_of⟩
def b_left_by : Ss := (.cons (.ret (.call "sum_up" (.cons (.lvals (.call "lefts_of" (.cons (.v 0) (.cons (.v 1) (.cons (.v 2) .nil))))) .nil))) .nil)
def f_left_by : Df := ⟨"left_by", ["one", "other", "ratio"], ["one", "other", "ratio"], b_left_by⟩
def b__check_ratio : Ss := (.cons (.ife (.not_ (.call "is_chance" (.cons (.v 0) .nil))) (.cons .raise_ .nil) .nil) .nil)
def f__check_ratio : Df := ⟨"_check_ratio", ["ratio"], ["ratio"], b__check_ratio⟩
def b_left_over : Ss := (.cons (.ex (.call "_check_both" (.cons (.v 0) (.cons (.v 1) .nil)))) (.cons (.ex (.call "_check_ratio" (.cons (.v 2) .nil))) (.cons (.ret (.call "left_by" (.cons (.v 0) (.cons (.v 1) (.cons (.v 2) .nil))))) .nil)))
def f_left_over : Df := ⟨"left_over", ["one", "other", "ratio"], ["one", "other", "ratio"], b_left_over⟩
def b_sorted_shares : Ss := (.cons (.new 1 (.nl .nil)) (.cons (.for_ (.v 2) (.seq (.v 0)) (.cons (.par 3 4 (.ex (.int 0)) (.ex (.olen 1))) (.cons (.whl (.cmp .lt (.v 3) (.v 4)) (.cons (.asg (.v 5) (.op .fdiv (.op .add (.v 3) (.v 4)) (.int 2))) (.cons (.ife (.call "is_less" (.cons (.oix 1 (.v 5)) (.cons (.v 2) .nil))) (.cons (.asg (.v 3) (.op .add (.v 5) (.int 1))) .nil) (.cons (.asg (.v 4) (.v 5)) .nil)) .nil))) (.cons (.ife (.or_ (.cmp .eq (.v 3) (.olen 1)) (.cmp .ne (.oix 1 (.v 3)) (.v 2))) (.cons (.ins 1 (.v 3) (.v 2)) .nil) .nil) .nil)))) (.cons (.fz 1 (.ret (.v 1))) .nil)))
def f_sorted_shares : Df := ⟨"sorted_shares", ["shares"], ["shares", "found", "share", "low", "high", "middle"], b_sorted_shares⟩
def b_curve : Ss := (.cons (.ex (.call "_check_both" (.cons (.v 0) (.cons (.v 1) .nil)))) (.cons (.asg (.v 2) (.bi .dict (.cons (.ix (.v 1) (.int 1)) .nil))) (.cons (.asg (.v 3) (.call "ratios_of" (.cons (.v 0) (.cons (.v 1) .nil)))) (.cons (.asg (.v 4) (.call "sorted_shares" (.cons (.op .add (.lst (.cons (.g "NOUGHT") .nil)) (.lc [15] (.v 15) (.v 15) (.vals (.v 3)) (.some (.notN (.v 15))))) .nil))) (.cons (.par 5 6 (.ex (.g "NOUGHT")) (.ex (.g "NOUGHT"))) (.cons (.new 7 (.tr .nd)) (.cons (.for_ (.cons (.v 8) (.cons (.v 9) .nil)) (.seq (.ix (.v 0) (.int 1))) (.cons (.sdapp (.v 7) (.ix (.v 3) (.v 8)) (.tup (.cons (.call "least_pair" (.cons (.v 9) (.cons (.ix (.v 0) (.int 0)) .nil))) (.cons (.call "least_pair" (.cons (.get (.v 2) (.v 8) (.int 0)) (.cons (.ix (.v 1) (.int 0)) .nil))) .nil)))) .nil)) (.cons (.fz 7 (.for_ (.cons (.v 10) (.cons (.v 11) .nil)) (.seq (.get (.v 7) .non (.lst .nil))) (.cons (.asg (.v 5) (.call "plus" (.cons (.v 5) (.cons (.v 10) .nil)))) .nil))) (.cons (.new 12 (.nl .nil)) (.cons (.for_ (.v 13) (.seq (.rev (.v 4))) (.cons (.app 12 (.tup (.cons (.v 13) (.cons (.call "minus" (.cons (.v 5) (.cons (.call "times" (.cons (.v 13) (.cons (.v 6) .nil))) .nil))) .nil)))) (.cons (.fz 7 (.for_ (.cons (.v 10) (.cons (.v 14) .nil)) (.seq (.get (.v 7) (.v 13) (.lst .nil))) (.cons (.par 5 6 (.ex (.call "plus" (.cons (.v 5) (.cons (.v 10) .nil)))) (.ex (.call "plus" (.cons (.v 6) (.cons (.v 14) .nil))))) .nil))) .nil))) (.cons (.fz 12 (.ret (.bi .tuple (.cons (.rev (.v 12)) .nil)))) .nil)))))))))))
def f_curve : Df := ⟨"curve", ["one", "other"], ["one", "other", "rows", "ratios", "corners", "own", "taken", "at", "value", "weight", "share", "_away", "found", "corner", "away", "ratio"], b_curve⟩
def b__law_draws : Ss := (.cons (.new 2 (.nl .nil)) (.cons (.asg (.v 3) (.int 7)) (.cons (.for_ (.v 4) (.seq (.sl (.v 0) .non (.some (.int 63)))) (.cons (.asg (.v 5) (.bi .abs (.cons (.v 4) .nil))) (.cons (.asg (.v 3) (.op .mod (.bi .int (.cons (.op .add (.op .add (.op .mul (.v 3) (.int 48271)) (.v 5)) (.int 11)) .nil)) (.int 2147483647))) (.cons (.ife (.cmp .ge (.v 5) (.op .pow (.int 10) (.int 18))) (.cons (.for_ (.v 6) (.rng1 (.int 60)) (.cons (.ife (.cmp .gt (.v 5) (.int 0)) (.cons (.app 2 (.op .mod (.bi .int (.cons (.v 5) .nil)) (.int 1009))) (.cons (.asg (.v 5) (.op .fdiv (.v 5) (.int 1009))) .nil)) .nil) .nil)) .nil) (.cons (.app 2 (.op .mod (.op .fdiv (.bi .int (.cons (.op .add (.op .mul (.v 3) (.int 16807)) (.int 5)) .nil)) (.int 3)) (.int 65521))) .nil)) .nil)))) (.cons (.for_ (.v 6) (.rng1 (.v 1)) (.cons (.ife (.cmp .lt (.olen 2) (.v 1)) (.cons (.asg (.v 3) (.op .mod (.bi .int (.cons (.op .add (.op .add (.op .mul (.v 3) (.int 69621)) (.v 6)) (.int 1)) .nil)) (.int 2147483647))) (.cons (.app 2 (.op .mod (.op .fdiv (.bi .int (.cons (.v 3) .nil)) (.int 7)) (.int 65521))) .nil)) .nil) .nil)) (.cons (.fz 2 (.ret (.sl (.v 2) .non (.some (.v 1))))) .nil)))))
def f__law_draws : Df := ⟨"_law_draws", ["script", "many"], ["script", "many", "draws", "seed", "cell", "number", "k"], b__law_draws⟩
def b__law_common : Ss := (.cons (.for_ (.v 2) (.rng1 (.int 4000)) (.cons (.ife (.cmp .eq (.v 1) (.int 0)) (.cons (.ret (.v 0)) .nil) .nil) (.cons (.par 0 1 (.ex (.v 1)) (.ex (.op .mod (.v 0) (.v 1)))) .nil))) (.cons (.ret (.v 0)) .nil))
def f__law_common : Df := ⟨"_law_common", ["one", "other"], ["one", "other", "k"], b__law_common⟩
def b__law_lowest : Ss := (.cons (.asg (.v 2) (.call "_law_common" (.cons (.bi .abs (.cons (.v 0) .nil)) (.cons (.v 1) .nil)))) (.cons (.ret (.tup (.cons (.op .fdiv (.v 0) (.v 2)) (.cons (.op .fdiv (.v 1) (.v 2)) .nil)))) .nil))
def f__law_lowest : Df := ⟨"_law_lowest", ["above", "below"], ["above", "below", "common"], b__law_lowest⟩
def b__law_times : Ss := (.cons (.ret (.call "_law_lowest" (.cons (.op .mul (.ix (.v 0) (.int 0)) (.ix (.v 1) (.int 0))) (.cons (.op .mul (.ix (.v 0) (.int 1)) (.ix (.v 1) (.int 1))) .nil)))) .nil)
def f__law_times : Df := ⟨"_law_times", ["one", "other"], ["one", "other"], b__law_times⟩
def b__law_plus : Ss := (.cons (.ret (.call "_law_lowest" (.cons (.op .add (.op .mul (.ix (.v 0) (.int 0)) (.ix (.v 1) (.int 1))) (.op .mul (.ix (.v 1) (.int 0)) (.ix (.v 0) (.int 1)))) (.cons (.op .mul (.ix (.v 0) (.int 1)) (.ix (.v 1) (.int 1))) .nil)))) .nil)
def f__law_plus : Df := ⟨"_law_plus", ["one", "other"], ["one", "other"], b__law_plus⟩
def b__law_minus : Ss := (.cons (.ret (.call "_law_plus" (.cons (.v 0) (.cons (.tup (.cons (.op .sub (.int 0) (.ix (.v 1) (.int 0))) (.cons (.ix (.v 1) (.int 1)) .nil))) .nil)))) .nil)
def f__law_minus : Df := ⟨"_law_minus", ["one", "other"], ["one", "other"], b__law_minus⟩
def b__law_is_above : Ss := (.cons (.ret (.cmp .gt (.op .mul (.ix (.v 0) (.int 0)) (.ix (.v 1) (.int 1))) (.op .mul (.ix (.v 1) (.int 0)) (.ix (.v 0) (.int 1))))) .nil)
def f__law_is_above : Df := ⟨"_law_is_above", ["one", "other"], ["one", "other"], b__law_is_above⟩
def b__law_made : Ss := (.cons (.asg (.v 1) (.bi .sorted (.cons (.lc [5] (.v 5) (.v 5) (.seq (.v 0)) (.some (.cmp .gt (.ix (.v 5) (.int 1)) (.int 0)))) .nil))) (.cons (.asg (.v 2) (.int 0)) (.cons (.for_ (.cons (.v 3) (.cons (.v 4) .nil)) (.seq (.v 1)) (.cons (.asg (.v 2) (.call "_law_common" (.cons (.v 2) (.cons (.v 4) .nil)))) .nil)) (.cons (.asg (.v 1) (.lc [3, 4] (.tup (.cons (.v 3) (.cons (.op .fdiv (.v 4) (.v 2)) .nil))) (.cons (.v 3) (.cons (.v 4) .nil)) (.seq (.v 1)) .non)) (.cons (.ret (.tup (.cons (.bi .sum (.cons (.lc [3, 4] (.v 4) (.cons (.v 3) (.cons (.v 4) .nil)) (.seq (.v 1)) .non) .nil)) (.cons (.bi .tuple (.cons (.v 1) .nil)) .nil)))) .nil)))))
def f__law_made : Df := ⟨"_law_made", ["pairs"], ["pairs", "rows", "common", "value", "weight", "pair"], b__law_made⟩
def b__law_spread : Ss := (.cons (.asg (.v 2) (.lc [3] (.tup (.cons (.v 3) (.cons (.op .mul (.op .mod (.bi .int (.cons (.ix (.v 0) (.v 3)) .nil)) (.int 7)) (.op .mod (.bi .int (.cons (.ix (.v 0) (.op .add (.v 3) (.v 1))) .nil)) (.int 3))) .nil))) (.v 3) (.rng1 (.v 1)) .non)) (.cons (.ret (.ite (.cmp .gt (.bi .sum (.cons (.lc [4, 5] (.v 5) (.cons (.v 4) (.cons (.v 5) .nil)) (.seq (.v 2)) .non) .nil)) (.int 0)) (.call "_law_made" (.cons (.v 2) .nil)) (.tup (.cons (.int 1) (.cons (.tup (.cons (.tup (.cons (.op .mod (.bi .int (.cons (.ix (.v 0) (.int 0)) .nil)) (.v 1)) (.cons (.int 1) .nil))) .nil)) .nil))))) .nil))
def f__law_spread : Df := ⟨"_law_spread", ["draws", "size"], ["draws", "size", "pairs", "k", "value", "weight"], b__law_spread⟩
def b__law_full : Ss := (.cons (.ret (.call "_law_made" (.cons (.lc [2] (.tup (.cons (.v 2) (.cons (.op .add (.int 1) (.op .mod (.bi .int (.cons (.ix (.v 0) (.v 2)) .nil)) (.int 6))) .nil))) (.v 2) (.rng1 (.v 1)) .non) .nil))) .nil)
def f__law_full : Df := ⟨"_law_full", ["draws", "size"], ["draws", "size", "k"], b__law_full⟩
def b_law : Ss := (.cons (.asg (.v 1) (.call "_law_draws" (.cons (.v 0) (.cons (.int 300) .nil)))) (.cons (.for_ (.v 2) (.rng1 (.int 6)) (.cons (.asg (.cons (.v 3) (.cons (.v 4) (.cons (.v 5) .nil))) (.lc [10] (.call "_law_full" (.cons (.sl (.v 1) (.some (.op .add (.op .mul (.int 40) (.v 2)) (.op .mul (.int 13) (.v 10)))) .non) (.cons (.int 5) .nil))) (.v 10) (.rng1 (.int 3)) .non)) (.cons (.par3 6 7 8 (.ex (.call "greatest_ratio" (.cons (.v 3) (.cons (.v 4) .nil)))) (.ex (.call "greatest_ratio" (.cons (.v 4) (.cons (.v 5) .nil)))) (.ex (.call "greatest_ratio" (.cons (.v 3) (.cons (.v 5) .nil))))) (.cons (.ife (.or_ (.call "_law_is_above" (.cons (.v 8) (.cons (.call "_law_times" (.cons (.v 6) (.cons (.v 7) .nil))) .nil))) (.or_ (.cmp .ne (.cmp .eq (.v 6) (.tup (.cons (.int 1) (.cons (.int 1) .nil)))) (.cmp .eq (.v 3) (.v 4))) (.call "_law_is_above" (.cons (.tup (.cons (.int 1) (.cons (.int 1) .nil))) (.cons (.v 6) .nil))))) (.cons (.ret (.bl false)) .nil) .nil) (.cons (.asg (.v 9) (.tup (.cons (.int 0) (.cons (.int 1) .nil)))) (.cons (.for_ (.v 10) (.rng1 (.int 5)) (.cons (.par 11 12 (.ex (.call "chance_of" (.cons (.v 3) (.cons (.v 10) .nil)))) (.ex (.call "chance_of" (.cons (.v 4) (.cons (.v 10) .nil))))) (.cons (.asg (.v 13) (.call "_law_lowest" (.cons (.op .mul (.ix (.v 11) (.int 0)) (.ix (.v 12) (.int 1))) (.cons (.op .mul (.ix (.v 11) (.int 1)) (.ix (.v 12) (.int 0))) .nil)))) (.cons (.asg (.v 9) (.ite (.call "_law_is_above" (.cons (.v 13) (.cons (.v 9) .nil))) (.v 13) (.v 9))) .nil)))) (.cons (.ife (.or_ (.cmp .ne (.v 6) (.v 9)) (.or_ (.cmp .ne (.call "left_over" (.cons (.v 3) (.cons (.v 4) (.cons (.v 6) .nil)))) (.tup (.cons (.int 0) (.cons (.int 1) .nil)))) (.cmp .ne (.ix (.call "curve" (.cons (.v 3) (.cons (.v 4) .nil))) (.neg (.int 1))) (.tup (.cons (.v 6) (.cons (.tup (.cons (.int 0) (.cons (.int 1) .nil))) .nil)))))) (.cons (.ret (.bl false)) .nil) .nil) (.cons (.asg (.v 14) (.call "ratio_at" (.cons (.v 3) (.cons (.v 4) .nil)))) (.cons (.ife (.cmp .ne (.call "_law_times" (.cons (.v 6) (.cons (.call "chance_of" (.cons (.v 4) (.cons (.v 14) .nil))) .nil))) (.call "chance_of" (.cons (.v 3) (.cons (.v 14) .nil)))) (.cons (.ret (.bl false)) .nil) .nil) (.cons (.asg (.v 15) (.bi .tuple (.cons (.lc [10] (.tup (.cons (.v 10) (.cons (.op .sub (.int 40) (.op .mul (.int 7) (.v 10))) .nil))) (.v 10) (.rng1 (.int 5)) .non) .nil))) (.cons (.ife (.cmp .ne (.call "greatest_ratio" (.cons (.call "mapped" (.cons (.v 3) (.cons (.v 15) .nil))) (.cons (.call "mapped" (.cons (.v 4) (.cons (.v 15) .nil))) .nil))) (.v 6)) (.cons (.ret (.bl false)) .nil) .nil) (.cons (.asg (.v 16) (.bi .tuple (.cons (.lc [10] (.tup (.cons (.v 10) (.cons (.op .mod (.bi .int (.cons (.ix (.v 1) (.op .mod (.op .add (.v 2) (.op .mul (.int 7) (.v 10))) (.int 300))) .nil)) (.int 2)) .nil))) (.v 10) (.rng1 (.int 5)) .non) .nil))) (.cons (.ife (.call "_law_is_above" (.cons (.call "greatest_ratio" (.cons (.call "mapped" (.cons (.v 3) (.cons (.v 16) .nil))) (.cons (.call "mapped" (.cons (.v 4) (.cons (.v 16) .nil))) .nil))) (.cons (.v 6) .nil))) (.cons (.ret (.bl false)) .nil) .nil) (.cons (.asg (.v 17) (.call "_law_lowest" (.cons (.op .mod (.bi .int (.cons (.ix (.v 1) (.op .add (.int 250) (.v 2))) .nil)) (.int 5)) (.cons (.int 4) .nil)))) (.cons (.asg (.v 18) (.call "_law_minus" (.cons (.tup (.cons (.int 1) (.cons (.int 1) .nil))) (.cons (.v 17) .nil)))) (.cons (.par 11 12 (.ex (.call "mixed" (.cons (.tup (.cons (.tup (.cons (.v 17) (.cons (.v 3) .nil))) (.cons (.tup (.cons (.v 18) (.cons (.v 4) .nil))) .nil))) .nil))) (.ex (.call "mixed" (.cons (.tup (.cons (.tup (.cons (.v 17) (.cons (.v 4) .nil))) (.cons (.tup (.cons (.v 18) (.cons (.v 5) .nil))) .nil))) .nil)))) (.cons (.asg (.v 19) (.ite (.call "_law_is_above" (.cons (.v 6) (.cons (.v 7) .nil))) (.v 6) (.v 7))) (.cons (.ife (.call "_law_is_above" (.cons (.call "greatest_ratio" (.cons (.v 11) (.cons (.v 12) .nil))) (.cons (.v 19) .nil))) (.cons (.ret (.bl false)) .nil) .nil) (.cons (.ife (.cmp .ne (.call "greatest_ratio" (.cons (.v 11) (.cons (.v 4) .nil))) (.call "_law_plus" (.cons (.tup (.cons (.int 1) (.cons (.int 1) .nil))) (.cons (.call "_law_times" (.cons (.v 17) (.cons (.call "_law_minus" (.cons (.v 6) (.cons (.tup (.cons (.int 1) (.cons (.int 1) .nil))) .nil))) .nil))) .nil)))) (.cons (.ret (.bl false)) .nil) .nil) .nil))))))))))))))))))) (.cons (.ret (.bl true)) .nil)))
def f_law : Df := ⟨"law", ["script"], ["script", "draws", "turn", "one", "two", "three", "ratio", "next_one", "far", "due", "k", "here", "there", "own", "at", "moved", "pairs", "share", "rest", "most"], b_law⟩
def dfs : List Df := [f_law, f__law_full, f__law_spread, f__law_made, f__law_is_above, f__law_minus, f__law_plus, f__law_times, f__law_lowest, f__law_common, f__law_draws, f_curve, f_sorted_shares, f_left_over, f__check_ratio, f_left_by, f_lefts_of, f_ratio_at, f_greatest_ratio, f__check_both, f_ratio_by, f_ratios_of, f_mixed, f_mapped, f__by_values, f_chance_of, f_shares_of, f_is_chance, f_are_pairs, f_spread_by, f_spread_of_weights, f_check_spread, f_spread_fault, f_common_of, f__is_weighed, f_are_of_one_sort, f_is_row, f_is_value, f_sum_up, f_greater_of, f_is_less, f_times, f_minus, f_plus, f_least_pair, f_is_fraction, f_is_integer]
def fn : List He.DefD := [mkD "is_integer" 10, mkD "is_fraction" 11, mkD "least_pair" 12, mkD "plus" 13, mkD "minus" 14, mkD "times" 15, mkD "is_less" 16, mkD "greater_of" 17, mkD "sum_up" 18, mkD "is_value" 22, mkD "is_row" 23, mkD "are_of_one_sort" 24, mkD "_is_weighed" 25, mkD "common_of" 27, mkD "spread_fault" 26, mkD "check_spread" 28, mkD "spread_of_weights" 29, mkD "spread_by" 30, mkD "are_pairs" 31, mkD "is_chance" 32, mkD "shares_of" 33, mkD "chance_of" 34, mkD "_by_values" 35, mkD "mapped" 36, mkD "mixed" 37, mkD "ratios_of" 39, mkD "ratio_by" 40, mkD "_check_both" 41, mkD "greatest_ratio" 42, mkD "ratio_at" 43, mkD "lefts_of" 44, mkD "left_by" 45, mkD "_check_ratio" 46, mkD "left_over" 47, mkD "sorted_shares" 48, mkD "curve" 49, mkD "_law_draws" 51, mkD "_law_common" 52, mkD "_law_lowest" 53, mkD "_law_times" 54, mkD "_law_plus" 55, mkD "_law_minus" 56, mkD "_law_is_above" 57, mkD "_law_made" 58, mkD "_law_spread" 59, mkD "_law_full" 60, mkD "law" 61]
def frs : List Str := ["abs", "all", "bool", "dict", "enumerate", "int", "isinstance", "len", "list", "range", "sorted", "sum", "tuple"]
def mts : List (Str × Bi) := [("gcd", .gcd), ("lcm", .lcm)]
def cns : List (Str × Cv) := [("NOUGHT", .tup [.inl 0, .inl 1]), ("ONE", .tup [.inl 1, .inl 1]), ("MOST_VALUES", .int 5000), ("FORM", .tup [.inr "form"])]
def fa : List He.Fa := [.glo "is_integer", .glo "is_fraction", .glo "least_pair", .glo "plus", .glo "minus", .glo "times", .glo "is_less", .glo "greater_of", .glo "sum_up", .glo "is_value", .glo "is_row", .glo "are_of_one_sort", .glo "_is_weighed", .glo "common_of", .glo "spread_fault", .glo "check_spread", .glo "spread_of_weights", .glo "spread_by", .glo "are_pairs", .glo "is_chance", .glo "shares_of", .glo "chance_of", .glo "_by_values", .glo "mapped", .glo "mixed", .glo "ratios_of", .glo "ratio_by", .glo "_check_both", .glo "greatest_ratio", .glo "ratio_at", .glo "lefts_of", .glo "left_by", .glo "_check_ratio", .glo "left_over", .glo "sorted_shares", .glo "curve", .glo "_law_draws", .glo "_law_common", .glo "_law_lowest", .glo "_law_times", .glo "_law_plus", .glo "_law_minus", .glo "_law_is_above", .glo "_law_made", .glo "_law_spread", .glo "_law_full", .glo "law"] ++ frs.map He.Fa.free
theorem s_is_integer : FnScope f_is_integer.N f_is_integer.ps (defScope (top 10)) := ⟨rfl, rfl, rfl, by decide +kernel, rfl, by decide +kernel, by decide +kernel⟩
theorem m_is_integer : mSs ⟨f_is_integer.N, frs, mts⟩ (defScope (top 10)) f_is_integer.body (defBody (top 10)) = true := by decide +kernel
theorem s_is_fraction : FnScope f_is_fraction.N f_is_fraction.ps (defScope (top 11)) := ⟨rfl, rfl, rfl, by decide +kernel, rfl, by decide +kernel, by decide +kernel⟩
theorem m_is_fraction : mSs ⟨f_is_fraction.N, frs, mts⟩ (defScope (top 11)) f_is_fraction.body (defBody (top 11)) = true := by decide +kernel
theorem s_least_pair : FnScope f_least_pair.N f_least_pair.ps (defScope (top 12)) := ⟨rfl, rfl, rfl, by decide +kernel, rfl, by decide +kernel, by decide +kernel⟩
theorem m_least_pair : mSs ⟨f_least_pair.N, frs, mts⟩ (defScope (top 12)) f_least_pair.body (defBody (top 12)) = true := by decide +kernel
theorem s_plus : FnScope f_plus.N f_plus.ps (defScope (top 13)) := ⟨rfl, rfl, rfl, by decide +kernel, rfl, by decide +kernel, by decide +kernel⟩
theorem m_plus : mSs ⟨f_plus.N, frs, mts⟩ (defScope (top 13)) f_plus.body (defBody (top 13)) = true := by decide +kernel
theorem s_minus : FnScope f_minus.N f_minus.ps (defScope (top 14)) := ⟨rfl, rfl, rfl, by decide +kernel, rfl, by decide +kernel, by decide +kernel⟩
theorem m_minus : mSs ⟨f_minus.N, frs, mts⟩ (defScope (top 14)) f_minus.body (defBody (top 14)) = true := by decide +kernel
theorem s_times : FnScope f_times.N f_times.ps (defScope (top 15)) := ⟨rfl, rfl, rfl, by decide +kernel, rfl, by decide +kernel, by decide +kernel⟩
theorem m_times : mSs ⟨f_times.N, frs, mts⟩ (defScope (top 15)) f_times.body (defBody (top 15)) = true := by decide +kernel
theorem s_is_less : FnScope f_is_less.N f_is_less.ps (defScope (top 16)) := ⟨rfl, rfl, rfl, by decide +kernel, rfl, by decide +kernel, by decide +kernel⟩
theorem m_is_less : mSs ⟨f_is_less.N, frs, mts⟩ (defScope (top 16)) f_is_less.body (defBody (top 16)) = true := by decide +kernel
theorem s_greater_of : FnScope f_greater_of.N f_greater_of.ps (defScope (top 17)) := ⟨rfl, rfl, rfl, by decide +kernel, rfl, by decide +kernel, by decide +kernel⟩
theorem m_greater_of : mSs ⟨f_greater_of.N, frs, mts⟩ (defScope (top 17)) f_greater_of.body (defBody (top 17)) = true := by decide +kernel
theorem s_sum_up : FnScope f_sum_up.N f_sum_up.ps (defScope (top 18)) := ⟨rfl, rfl, rfl, by decide +kernel, rfl, by decide +kernel, by decide +kernel⟩
theorem m_sum_up : mSs ⟨f_sum_up.N, frs, mts⟩ (defScope (top 18)) f_sum_up.body (defBody (top 18)) = true := by decide +kernel
theorem s_is_value : FnScope f_is_value.N f_is_value.ps (defScope (top 22)) := ⟨rfl, rfl, rfl, by decide +kernel, rfl, by decide +kernel, by decide +kernel⟩
theorem m_is_value : mSs ⟨f_is_value.N, frs, mts⟩ (defScope (top 22)) f_is_value.body (defBody (top 22)) = true := by decide +kernel
theorem s_is_row : FnScope f_is_row.N f_is_row.ps (defScope (top 23)) := ⟨rfl, rfl, rfl, by decide +kernel, rfl, by decide +kernel, by decide +kernel⟩
theorem m_is_row : mSs ⟨f_is_row.N, frs, mts⟩ (defScope (top 23)) f_is_row.body (defBody (top 23)) = true := by decide +kernel
theorem s_are_of_one_sort : FnScope f_are_of_one_sort.N f_are_of_one_sort.ps (defScope (top 24)) := ⟨rfl, rfl, rfl, by decide +kernel, rfl, by decide +kernel, by decide +kernel⟩
theorem m_are_of_one_sort : mSs ⟨f_are_of_one_sort.N, frs, mts⟩ (defScope (top 24)) f_are_of_one_sort.body (defBody (top 24)) = true := by decide +kernel
theorem s__is_weighed : FnScope f__is_weighed.N f__is_weighed.ps (defScope (top 25)) := ⟨rfl, rfl, rfl, by decide +kernel, rfl, by decide +kernel, by decide +kernel⟩
theorem m__is_weighed : mSs ⟨f__is_weighed.N, frs, mts⟩ (defScope (top 25)) f__is_weighed.body (defBody (top 25)) = true := by decide +kernel
theorem s_common_of : FnScope f_common_of.N f_common_of.ps (defScope (top 27)) := ⟨rfl, rfl, rfl, by decide +kernel, rfl, by decide +kernel, by decide +kernel⟩
theorem m_common_of : mSs ⟨f_common_of.N, frs, mts⟩ (defScope (top 27)) f_common_of.body (defBody (top 27)) = true := by decide +kernel
theorem s_spread_fault : FnScope f_spread_fault.N f_spread_fault.ps (defScope (top 26)) := ⟨rfl, rfl, rfl, by decide +kernel, rfl, by decide +kernel, by decide +kernel⟩
theorem m_spread_fault : mSs ⟨f_spread_fault.N, frs, mts⟩ (defScope (top 26)) f_spread_fault.body (defBody (top 26)) = true := by decide +kernel
theorem s_check_spread : FnScope f_check_spread.N f_check_spread.ps (defScope (top 28)) := ⟨rfl, rfl, rfl, by decide +kernel, rfl, by decide +kernel, by decide +kernel⟩
theorem m_check_spread : mSs ⟨f_check_spread.N, frs, mts⟩ (defScope (top 28)) f_check_spread.body (defBody (top 28)) = true := by decide +kernel
theorem s_spread_of_weights : FnScope f_spread_of_weights.N f_spread_of_weights.ps (defScope (top 29)) := ⟨rfl, rfl, rfl, by decide +kernel, rfl, by decide +kernel, by decide +kernel⟩
theorem m_spread_of_weights : mSs ⟨f_spread_of_weights.N, frs, mts⟩ (defScope (top 29)) f_spread_of_weights.body (defBody (top 29)) = true := by decide +kernel
theorem s_spread_by : FnScope f_spread_by.N f_spread_by.ps (defScope (top 30)) := ⟨rfl, rfl, rfl, by decide +kernel, rfl, by decide +kernel, by decide +kernel⟩
theorem m_spread_by : mSs ⟨f_spread_by.N, frs, mts⟩ (defScope (top 30)) f_spread_by.body (defBody (top 30)) = true := by decide +kernel
theorem s_are_pairs : FnScope f_are_pairs.N f_are_pairs.ps (defScope (top 31)) := ⟨rfl, rfl, rfl, by decide +kernel, rfl, by decide +kernel, by decide +kernel⟩
theorem m_are_pairs : mSs ⟨f_are_pairs.N, frs, mts⟩ (defScope (top 31)) f_are_pairs.body (defBody (top 31)) = true := by decide +kernel
theorem s_is_chance : FnScope f_is_chance.N f_is_chance.ps (defScope (top 32)) := ⟨rfl, rfl, rfl, by decide +kernel, rfl, by decide +kernel, by decide +kernel⟩
theorem m_is_chance : mSs ⟨f_is_chance.N, frs, mts⟩ (defScope (top 32)) f_is_chance.body (defBody (top 32)) = true := by decide +kernel
theorem s_shares_of : FnScope f_shares_of.N f_shares_of.ps (defScope (top 33)) := ⟨rfl, rfl, rfl, by decide +kernel, rfl, by decide +kernel, by decide +kernel⟩
theorem m_shares_of : mSs ⟨f_shares_of.N, frs, mts⟩ (defScope (top 33)) f_shares_of.body (defBody (top 33)) = true := by decide +kernel
theorem s_chance_of : FnScope f_chance_of.N f_chance_of.ps (defScope (top 34)) := ⟨rfl, rfl, rfl, by decide +kernel, rfl, by decide +kernel, by decide +kernel⟩
theorem m_chance_of : mSs ⟨f_chance_of.N, frs, mts⟩ (defScope (top 34)) f_chance_of.body (defBody (top 34)) = true := by decide +kernel
theorem s__by_values : FnScope f__by_values.N f__by_values.ps (defScope (top 35)) := ⟨rfl, rfl, rfl, by decide +kernel, rfl, by decide +kernel, by decide +kernel⟩
theorem m__by_values : mSs ⟨f__by_values.N, frs, mts⟩ (defScope (top 35)) f__by_values.body (defBody (top 35)) = true := by decide +kernel
theorem s_mapped : FnScope f_mapped.N f_mapped.ps (defScope (top 36)) := ⟨rfl, rfl, rfl, by decide +kernel, rfl, by decide +kernel, by decide +kernel⟩
theorem m_mapped : mSs ⟨f_mapped.N, frs, mts⟩ (defScope (top 36)) f_mapped.body (defBody (top 36)) = true := by decide +kernel
theorem s_mixed : FnScope f_mixed.N f_mixed.ps (defScope (top 37)) := ⟨rfl, rfl, rfl, by decide +kernel, rfl, by decide +kernel, by decide +kernel⟩
theorem m_mixed : mSs ⟨f_mixed.N, frs, mts⟩ (defScope (top 37)) f_mixed.body (defBody (top 37)) = true := by decide +kernel
theorem s_ratios_of : FnScope f_ratios_of.N f_ratios_of.ps (defScope (top 39)) := ⟨rfl, rfl, rfl, by decide +kernel, rfl, by decide +kernel, by decide +kernel⟩
theorem m_ratios_of : mSs ⟨f_ratios_of.N, frs, mts⟩ (defScope (top 39)) f_ratios_of.body (defBody (top 39)) = true := by decide +kernel
theorem s_ratio_by : FnScope f_ratio_by.N f_ratio_by.ps (defScope (top 40)) := ⟨rfl, rfl, rfl, by decide +kernel, rfl, by decide +kernel, by decide +kernel⟩
theorem m_ratio_by : mSs ⟨f_ratio_by.N, frs, mts⟩ (defScope (top 40)) f_ratio_by.body (defBody (top 40)) = true := by decide +kernel
theorem s__check_both : FnScope f__check_both.N f__check_both.ps (defScope (top 41)) := ⟨rfl, rfl, rfl, by decide +kernel, rfl, by decide +kernel, by decide +kernel⟩
theorem m__check_both : mSs ⟨f__check_both.N, frs, mts⟩ (defScope (top 41)) f__check_both.body (defBody (top 41)) = true := by decide +kernel
theorem s_greatest_ratio : FnScope f_greatest_ratio.N f_greatest_ratio.ps (defScope (top 42)) := ⟨rfl, rfl, rfl, by decide +kernel, rfl, by decide +kernel, by decide +kernel⟩
theorem m_greatest_ratio : mSs ⟨f_greatest_ratio.N, frs, mts⟩ (defScope (top 42)) f_greatest_ratio.body (defBody (top 42)) = true := by decide +kernel
theorem s_ratio_at : FnScope f_ratio_at.N f_ratio_at.ps (defScope (top 43)) := ⟨rfl, rfl, rfl, by decide +kernel, rfl, by decide +kernel, by decide +kernel⟩
theorem m_ratio_at : mSs ⟨f_ratio_at.N, frs, mts⟩ (defScope (top 43)) f_ratio_at.body (defBody (top 43)) = true := by decide +kernel
theorem s_lefts_of : FnScope f_lefts_of.N f_lefts_of.ps (defScope (top 44)) := ⟨rfl, rfl, rfl, by decide +kernel, rfl, by decide +kernel, by decide +kernel⟩
theorem m_lefts_of : mSs ⟨f_lefts_of.N, frs, mts⟩ (defScope (top 44)) f_lefts_of.body (defBody (top 44)) = true := by decide +kernel
theorem s_left_by : FnScope f_left_by.N f_left_by.ps (defScope (top 45)) := ⟨rfl, rfl, rfl, by decide +kernel, rfl, by decide +kernel, by decide +kernel⟩
theorem m_left_by : mSs ⟨f_left_by.N, frs, mts⟩ (defScope (top 45)) f_left_by.body (defBody (top 45)) = true := by decide +kernel
theorem s__check_ratio : FnScope f__check_ratio.N f__check_ratio.ps (defScope (top 46)) := ⟨rfl, rfl, rfl, by decide +kernel, rfl, by decide +kernel, by decide +kernel⟩
theorem m__check_ratio : mSs ⟨f__check_ratio.N, frs, mts⟩ (defScope (top 46)) f__check_ratio.body (defBody (top 46)) = true := by decide +kernel
theorem s_left_over : FnScope f_left_over.N f_left_over.ps (defScope (top 47)) := ⟨rfl, rfl, rfl, by decide +kernel, rfl, by decide +kernel, by decide +kernel⟩
theorem m_left_over : mSs ⟨f_left_over.N, frs, mts⟩ (defScope (top 47)) f_left_over.body (defBody (top 47)) = true := by decide +kernel
theorem s_sorted_shares : FnScope f_sorted_shares.N f_sorted_shares.ps (defScope (top 48)) := ⟨rfl, rfl, rfl, by decide +kernel, rfl, by decide +kernel, by decide +kernel⟩
theorem m_sorted_shares : mSs ⟨f_sorted_shares.N, frs, mts⟩ (defScope (top 48)) f_sorted_shares.body (defBody (top 48)) = true := by decide +kernel
theorem s_curve : FnScope f_curve.N f_curve.ps (defScope (top 49)) := ⟨rfl, rfl, rfl, by decide +kernel, rfl, by decide +kernel, by decide +kernel⟩
theorem m_curve : mSs ⟨f_curve.N, frs, mts⟩ (defScope (top 49)) f_curve.body (defBody (top 49)) = true := by decide +kernel
theorem s__law_draws : FnScope f__law_draws.N f__law_draws.ps (defScope (top 51)) := ⟨rfl, rfl, rfl, by decide +kernel, rfl, by decide +kernel, by decide +kernel⟩
theorem m__law_draws : mSs ⟨f__law_draws.N, frs, mts⟩ (defScope (top 51)) f__law_draws.body (defBody (top 51)) = true := by decide +kernel
theorem s__law_common : FnScope f__law_common.N f__law_common.ps (defScope (top 52)) := ⟨rfl, rfl, rfl, by decide +kernel, rfl, by decide +kernel, by decide +kernel⟩
theorem m__law_common : mSs ⟨f__law_common.N, frs, mts⟩ (defScope (top 52)) f__law_common.body (defBody (top 52)) = true := by decide +kernel
theorem s__law_lowest : FnScope f__law_lowest.N f__law_lowest.ps (defScope (top 53)) := ⟨rfl, rfl, rfl, by decide +kernel, rfl, by decide +kernel, by decide +kernel⟩
theorem m__law_lowest : mSs ⟨f__law_lowest.N, frs, mts⟩ (defScope (top 53)) f__law_lowest.body (defBody (top 53)) = true := by decide +kernel
theorem s__law_times : FnScope f__law_times.N f__law_times.ps (defScope (top 54)) := ⟨rfl, rfl, rfl, by decide +kernel, rfl, by decide +kernel, by decide +kernel⟩
theorem m__law_times : mSs ⟨f__law_times.N, frs, mts⟩ (defScope (top 54)) f__law_times.body (defBody (top 54)) = true := by decide +kernel
theorem s__law_plus : FnScope f__law_plus.N f__law_plus.ps (defScope (top 55)) := ⟨rfl, rfl, rfl, by decide +kernel, rfl, by decide +kernel, by decide +kernel⟩
theorem m__law_plus : mSs ⟨f__law_plus.N, frs, mts⟩ (defScope (top 55)) f__law_plus.body (defBody (top 55)) = true := by decide +kernel
theorem s__law_minus : FnScope f__law_minus.N f__law_minus.ps (defScope (top 56)) := ⟨rfl, rfl, rfl, by decide +kernel, rfl, by decide +kernel, by decide +kernel⟩
theorem m__law_minus : mSs ⟨f__law_minus.N, frs, mts⟩ (defScope (top 56)) f__law_minus.body (defBody (top 56)) = true := by decide +kernel
theorem s__law_is_above : FnScope f__law_is_above.N f__law_is_above.ps (defScope (top 57)) := ⟨rfl, rfl, rfl, by decide +kernel, rfl, by decide +kernel, by decide +kernel⟩
theorem m__law_is_above : mSs ⟨f__law_is_above.N, frs, mts⟩ (defScope (top 57)) f__law_is_above.body (defBody (top 57)) = true := by decide +kernel
theorem s__law_made : FnScope f__law_made.N f__law_made.ps (defScope (top 58)) := ⟨rfl, rfl, rfl, by decide +kernel, rfl, by decide +kernel, by decide +kernel⟩
theorem m__law_made : mSs ⟨f__law_made.N, frs, mts⟩ (defScope (top 58)) f__law_made.body (defBody (top 58)) = true := by decide +kernel
theorem s__law_spread : FnScope f__law_spread.N f__law_spread.ps (defScope (top 59)) := ⟨rfl, rfl, rfl, by decide +kernel, rfl, by decide +kernel, by decide +kernel⟩
theorem m__law_spread : mSs ⟨f__law_spread.N, frs, mts⟩ (defScope (top 59)) f__law_spread.body (defBody (top 59)) = true := by decide +kernel
theorem s__law_full : FnScope f__law_full.N f__law_full.ps (defScope (top 60)) := ⟨rfl, rfl, rfl, by decide +kernel, rfl, by decide +kernel, by decide +kernel⟩
theorem m__law_full : mSs ⟨f__law_full.N, frs, mts⟩ (defScope (top 60)) f__law_full.body (defBody (top 60)) = true := by decide +kernel
theorem s_law : FnScope f_law.N f_law.ps (defScope (top 61)) := ⟨rfl, rfl, rfl, by decide +kernel, rfl, by decide +kernel, by decide +kernel⟩
theorem m_law : mSs ⟨f_law.N, frs, mts⟩ (defScope (top 61)) f_law.body (defBody (top 61)) = true := by decide +kernel
section
variable {K : PySem.W.Frag} {h : Heap} {mg : Str → Option Value} (X : K.In h) (G : h.Ns mainGlobals mg) (c : SaysP fa cns mts fn K)
include X G c
theorem mem_fr {x : Str} (hx : frs.contains x = true) : He.Fa.free x ∈ fa := List.mem_append_right _ (List.mem_map.mpr ⟨x, by simpa using hx, rfl⟩)
theorem o_is_integer : DfOk K mg frs mts f_is_integer := by
  obtain ⟨fd, F⟩ := c.all.2.2.2 (mkD "is_integer" 10) (List.mem_of_getElem? (i := 0) rfl)
  exact ⟨_, _, _, _, _, fd, F, He.glo_ok X G (c.all.1 (.glo "is_integer") (List.mem_of_getElem? (i := 0) rfl)), F.bindsN (fun _ _ _ _ _ _ us hl => match us, hl with | [_], _ => rfl), s_is_integer, m_is_integer⟩
theorem o_is_fraction : DfOk K mg frs mts f_is_fraction := by
  obtain ⟨fd, F⟩ := c.all.2.2.2 (mkD "is_fraction" 11) (List.mem_of_getElem? (i := 1) rfl)
  exact ⟨_, _, _, _, _, fd, F, He.glo_ok X G (c.all.1 (.glo "is_fraction") (List.mem_of_getElem? (i := 1) rfl)), F.bindsN (fun _ _ _ _ _ _ us hl => match us, hl with | [_], _ => rfl), s_is_fraction, m_is_fraction⟩
theorem o_least_pair : DfOk K mg frs mts f_least_pair := by
  obtain ⟨fd, F⟩ := c.all.2.2.2 (mkD "least_pair" 12) (List.mem_of_getElem? (i := 2) rfl)
  exact ⟨_, _, _, _, _, fd, F, He.glo_ok X G (c.all.1 (.glo "least_pair") (List.mem_of_getElem? (i := 2) rfl)), F.bindsN (fun _ _ _ _ _ _ us hl => match us, hl with | [_, _], _ => rfl), s_least_pair, m_least_pair⟩
theorem o_plus : DfOk K mg frs mts f_plus := by
  obtain ⟨fd, F⟩ := c.all.2.2.2 (mkD "plus" 13) (List.mem_of_getElem? (i := 3) rfl)
  exact ⟨_, _, _, _, _, fd, F, He.glo_ok X G (c.all.1 (.glo "plus") (List.mem_of_getElem? (i := 3) rfl)), F.bindsN (fun _ _ _ _ _ _ us hl => match us, hl with | [_, _], _ => rfl), s_plus, m_plus⟩
theorem o_minus : DfOk K mg frs mts f_minus := by
  obtain ⟨fd, F⟩ := c.all.2.2.2 (mkD "minus" 14) (List.mem_of_getElem? (i := 4) rfl)
  exact ⟨_, _, _, _, _, fd, F, He.glo_ok X G (c.all.1 (.glo "minus") (List.mem_of_getElem? (i := 4) rfl)), F.bindsN (fun _ _ _ _ _ _ us hl => match us, hl with | [_, _], _ => rfl), s_minus, m_minus⟩
theorem o_times : DfOk K mg frs mts f_times := by
  obtain ⟨fd, F⟩ := c.all.2.2.2 (mkD "times" 15) (List.mem_of_getElem? (i := 5) rfl)
  exact ⟨_, _, _, _, _, fd, F, He.glo_ok X G (c.all.1 (.glo "times") (List.mem_of_getElem? (i := 5) rfl)), F.bindsN (fun _ _ _ _ _ _ us hl => match us, hl with | [_, _], _ => rfl), s_times, m_times⟩
theorem o_is_less : DfOk K mg frs mts f_is_less := by
  obtain ⟨fd, F⟩ := c.all.2.2.2 (mkD "is_less" 16) (List.mem_of_getElem? (i := 6) rfl)
  exact ⟨_, _, _, _, _, fd, F, He.glo_ok X G (c.all.1 (.glo "is_less") (List.mem_of_getElem? (i := 6) rfl)), F.bindsN (fun _ _ _ _ _ _ us hl => match us, hl with | [_, _], _ => rfl), s_is_less, m_is_less⟩
theorem o_greater_of : DfOk K mg frs mts f_greater_of := by
  obtain ⟨fd, F⟩ := c.all.2.2.2 (mkD "greater_of" 17) (List.mem_of_getElem? (i := 7) rfl)
  exact ⟨_, _, _, _, _, fd, F, He.glo_ok X G (c.all.1 (.glo "greater_of") (List.mem_of_getElem? (i := 7) rfl)), F.bindsN (fun _ _ _ _ _ _ us hl => match us, hl with | [_, _], _ => rfl), s_greater_of, m_greater_of⟩
theorem o_sum_up : DfOk K mg frs mts f_sum_up := by
  obtain ⟨fd, F⟩ := c.all.2.2.2 (mkD "sum_up" 18) (List.mem_of_getElem? (i := 8) rfl)
  exact ⟨_, _, _, _, _, fd, F, He.glo_ok X G (c.all.1 (.glo "sum_up") (List.mem_of_getElem? (i := 8) rfl)), F.bindsN (fun _ _ _ _ _ _ us hl => match us, hl with | [_], _ => rfl), s_sum_up, m_sum_up⟩
theorem o_is_value : DfOk K mg frs mts f_is_value := by
  obtain ⟨fd, F⟩ := c.all.2.2.2 (mkD "is_value" 22) (List.mem_of_getElem? (i := 9) rfl)
  exact ⟨_, _, _, _, _, fd, F, He.glo_ok X G (c.all.1 (.glo "is_value") (List.mem_of_getElem? (i := 9) rfl)), F.bindsN (fun _ _ _ _ _ _ us hl => match us, hl with | [_], _ => rfl), s_is_value, m_is_value⟩
theorem o_is_row : DfOk K mg frs mts f_is_row := by
  obtain ⟨fd, F⟩ := c.all.2.2.2 (mkD "is_row" 23) (List.mem_of_getElem? (i := 10) rfl)
  exact ⟨_, _, _, _, _, fd, F, He.glo_ok X G (c.all.1 (.glo "is_row") (List.mem_of_getElem? (i := 10) rfl)), F.bindsN (fun _ _ _ _ _ _ us hl => match us, hl with | [_], _ => rfl), s_is_row, m_is_row⟩
theorem o_are_of_one_sort : DfOk K mg frs mts f_are_of_one_sort := by
  obtain ⟨fd, F⟩ := c.all.2.2.2 (mkD "are_of_one_sort" 24) (List.mem_of_getElem? (i := 11) rfl)
  exact ⟨_, _, _, _, _, fd, F, He.glo_ok X G (c.all.1 (.glo "are_of_one_sort") (List.mem_of_getElem? (i := 11) rfl)), F.bindsN (fun _ _ _ _ _ _ us hl => match us, hl with | [_], _ => rfl), s_are_of_one_sort, m_are_of_one_sort⟩
theorem o__is_weighed : DfOk K mg frs mts f__is_weighed := by
  obtain ⟨fd, F⟩ := c.all.2.2.2 (mkD "_is_weighed" 25) (List.mem_of_getElem? (i := 12) rfl)
  exact ⟨_, _, _, _, _, fd, F, He.glo_ok X G (c.all.1 (.glo "_is_weighed") (List.mem_of_getElem? (i := 12) rfl)), F.bindsN (fun _ _ _ _ _ _ us hl => match us, hl with | [_], _ => rfl), s__is_weighed, m__is_weighed⟩
theorem o_common_of : DfOk K mg frs mts f_common_of := by
  obtain ⟨fd, F⟩ := c.all.2.2.2 (mkD "common_of" 27) (List.mem_of_getElem? (i := 13) rfl)
  exact ⟨_, _, _, _, _, fd, F, He.glo_ok X G (c.all.1 (.glo "common_of") (List.mem_of_getElem? (i := 13) rfl)), F.bindsN (fun _ _ _ _ _ _ us hl => match us, hl with | [_], _ => rfl), s_common_of, m_common_of⟩
theorem o_spread_fault : DfOk K mg frs mts f_spread_fault := by
  obtain ⟨fd, F⟩ := c.all.2.2.2 (mkD "spread_fault" 26) (List.mem_of_getElem? (i := 14) rfl)
  exact ⟨_, _, _, _, _, fd, F, He.glo_ok X G (c.all.1 (.glo "spread_fault") (List.mem_of_getElem? (i := 14) rfl)), F.bindsN (fun _ _ _ _ _ _ us hl => match us, hl with | [_], _ => rfl), s_spread_fault, m_spread_fault⟩
theorem o_check_spread : DfOk K mg frs mts f_check_spread := by
  obtain ⟨fd, F⟩ := c.all.2.2.2 (mkD "check_spread" 28) (List.mem_of_getElem? (i := 15) rfl)
  exact ⟨_, _, _, _, _, fd, F, He.glo_ok X G (c.all.1 (.glo "check_spread") (List.mem_of_getElem? (i := 15) rfl)), F.bindsN (fun _ _ _ _ _ _ us hl => match us, hl with | [_], _ => rfl), s_check_spread, m_check_spread⟩
theorem o_spread_of_weights : DfOk K mg frs mts f_spread_of_weights := by
  obtain ⟨fd, F⟩ := c.all.2.2.2 (mkD "spread_of_weights" 29) (List.mem_of_getElem? (i := 16) rfl)
  exact ⟨_, _, _, _, _, fd, F, He.glo_ok X G (c.all.1 (.glo "spread_of_weights") (List.mem_of_getElem? (i := 16) rfl)), F.bindsN (fun _ _ _ _ _ _ us hl => match us, hl with | [_], _ => rfl), s_spread_of_weights, m_spread_of_weights⟩
theorem o_spread_by : DfOk K mg frs mts f_spread_by := by
  obtain ⟨fd, F⟩ := c.all.2.2.2 (mkD "spread_by" 30) (List.mem_of_getElem? (i := 17) rfl)
  exact ⟨_, _, _, _, _, fd, F, He.glo_ok X G (c.all.1 (.glo "spread_by") (List.mem_of_getElem? (i := 17) rfl)), F.bindsN (fun _ _ _ _ _ _ us hl => match us, hl with | [_], _ => rfl), s_spread_by, m_spread_by⟩
theorem o_are_pairs : DfOk K mg frs mts f_are_pairs := by
  obtain ⟨fd, F⟩ := c.all.2.2.2 (mkD "are_pairs" 31) (List.mem_of_getElem? (i := 18) rfl)
  exact ⟨_, _, _, _, _, fd, F, He.glo_ok X G (c.all.1 (.glo "are_pairs") (List.mem_of_getElem? (i := 18) rfl)), F.bindsN (fun _ _ _ _ _ _ us hl => match us, hl with | [_], _ => rfl), s_are_pairs, m_are_pairs⟩
theorem o_is_chance : DfOk K mg frs mts f_is_chance := by
  obtain ⟨fd, F⟩ := c.all.2.2.2 (mkD "is_chance" 32) (List.mem_of_getElem? (i := 19) rfl)
  exact ⟨_, _, _, _, _, fd, F, He.glo_ok X G (c.all.1 (.glo "is_chance") (List.mem_of_getElem? (i := 19) rfl)), F.bindsN (fun _ _ _ _ _ _ us hl => match us, hl with | [_], _ => rfl), s_is_chance, m_is_chance⟩
theorem o_shares_of : DfOk K mg frs mts f_shares_of := by
  obtain ⟨fd, F⟩ := c.all.2.2.2 (mkD "shares_of" 33) (List.mem_of_getElem? (i := 20) rfl)
  exact ⟨_, _, _, _, _, fd, F, He.glo_ok X G (c.all.1 (.glo "shares_of") (List.mem_of_getElem? (i := 20) rfl)), F.bindsN (fun _ _ _ _ _ _ us hl => match us, hl with | [_], _ => rfl), s_shares_of, m_shares_of⟩
theorem o_chance_of : DfOk K mg frs mts f_chance_of := by
  obtain ⟨fd, F⟩ := c.all.2.2.2 (mkD "chance_of" 34) (List.mem_of_getElem? (i := 21) rfl)
  exact ⟨_, _, _, _, _, fd, F, He.glo_ok X G (c.all.1 (.glo "chance_of") (List.mem_of_getElem? (i := 21) rfl)), F.bindsN (fun _ _ _ _ _ _ us hl => match us, hl with | [_, _], _ => rfl), s_chance_of, m_chance_of⟩
theorem o__by_values : DfOk K mg frs mts f__by_values := by
  obtain ⟨fd, F⟩ := c.all.2.2.2 (mkD "_by_values" 35) (List.mem_of_getElem? (i := 22) rfl)
  exact ⟨_, _, _, _, _, fd, F, He.glo_ok X G (c.all.1 (.glo "_by_values") (List.mem_of_getElem? (i := 22) rfl)), F.bindsN (fun _ _ _ _ _ _ us hl => match us, hl with | [_, _], _ => rfl), s__by_values, m__by_values⟩
theorem o_mapped : DfOk K mg frs mts f_mapped := by
  obtain ⟨fd, F⟩ := c.all.2.2.2 (mkD "mapped" 36) (List.mem_of_getElem? (i := 23) rfl)
  exact ⟨_, _, _, _, _, fd, F, He.glo_ok X G (c.all.1 (.glo "mapped") (List.mem_of_getElem? (i := 23) rfl)), F.bindsN (fun _ _ _ _ _ _ us hl => match us, hl with | [_, _], _ => rfl), s_mapped, m_mapped⟩
theorem o_mixed : DfOk K mg frs mts f_mixed := by
  obtain ⟨fd, F⟩ := c.all.2.2.2 (mkD "mixed" 37) (List.mem_of_getElem? (i := 24) rfl)
  exact ⟨_, _, _, _, _, fd, F, He.glo_ok X G (c.all.1 (.glo "mixed") (List.mem_of_getElem? (i := 24) rfl)), F.bindsN (fun _ _ _ _ _ _ us hl => match us, hl with | [_], _ => rfl), s_mixed, m_mixed⟩
theorem o_ratios_of : DfOk K mg frs mts f_ratios_of := by
  obtain ⟨fd, F⟩ := c.all.2.2.2 (mkD "ratios_of" 39) (List.mem_of_getElem? (i := 25) rfl)
  exact ⟨_, _, _, _, _, fd, F, He.glo_ok X G (c.all.1 (.glo "ratios_of") (List.mem_of_getElem? (i := 25) rfl)), F.bindsN (fun _ _ _ _ _ _ us hl => match us, hl with | [_, _], _ => rfl), s_ratios_of, m_ratios_of⟩
theorem o_ratio_by : DfOk K mg frs mts f_ratio_by := by
  obtain ⟨fd, F⟩ := c.all.2.2.2 (mkD "ratio_by" 40) (List.mem_of_getElem? (i := 26) rfl)
  exact ⟨_, _, _, _, _, fd, F, He.glo_ok X G (c.all.1 (.glo "ratio_by") (List.mem_of_getElem? (i := 26) rfl)), F.bindsN (fun _ _ _ _ _ _ us hl => match us, hl with | [_, _], _ => rfl), s_ratio_by, m_ratio_by⟩
theorem o__check_both : DfOk K mg frs mts f__check_both := by
  obtain ⟨fd, F⟩ := c.all.2.2.2 (mkD "_check_both" 41) (List.mem_of_getElem? (i := 27) rfl)
  exact ⟨_, _, _, _, _, fd, F, He.glo_ok X G (c.all.1 (.glo "_check_both") (List.mem_of_getElem? (i := 27) rfl)), F.bindsN (fun _ _ _ _ _ _ us hl => match us, hl with | [_, _], _ => rfl), s__check_both, m__check_both⟩
theorem o_greatest_ratio : DfOk K mg frs mts f_greatest_ratio := by
  obtain ⟨fd, F⟩ := c.all.2.2.2 (mkD "greatest_ratio" 42) (List.mem_of_getElem? (i := 28) rfl)
  exact ⟨_, _, _, _, _, fd, F, He.glo_ok X G (c.all.1 (.glo "greatest_ratio") (List.mem_of_getElem? (i := 28) rfl)), F.bindsN (fun _ _ _ _ _ _ us hl => match us, hl with | [_, _], _ => rfl), s_greatest_ratio, m_greatest_ratio⟩
theorem o_ratio_at : DfOk K mg frs mts f_ratio_at := by
  obtain ⟨fd, F⟩ := c.all.2.2.2 (mkD "ratio_at" 43) (List.mem_of_getElem? (i := 29) rfl)
  exact ⟨_, _, _, _, _, fd, F, He.glo_ok X G (c.all.1 (.glo "ratio_at") (List.mem_of_getElem? (i := 29) rfl)), F.bindsN (fun _ _ _ _ _ _ us hl => match us, hl with | [_, _], _ => rfl), s_ratio_at, m_ratio_at⟩
theorem o_lefts_of : DfOk K mg frs mts f_lefts_of := by
  obtain ⟨fd, F⟩ := c.all.2.2.2 (mkD "lefts_of" 44) (List.mem_of_getElem? (i := 30) rfl)
  exact ⟨_, _, _, _, _, fd, F, He.glo_ok X G (c.all.1 (.glo "lefts_of") (List.mem_of_getElem? (i := 30) rfl)), F.bindsN (fun _ _ _ _ _ _ us hl => match us, hl with | [_, _, _], _ => rfl), s_lefts_of, m_lefts_of⟩
theorem o_left_by : DfOk K mg frs mts f_left_by := by
  obtain ⟨fd, F⟩ := c.all.2.2.2 (mkD "left_by" 45) (List.mem_of_getElem? (i := 31) rfl)
  exact ⟨_, _, _, _, _, fd, F, He.glo_ok X G (c.all.1 (.glo "left_by") (List.mem_of_getElem? (i := 31) rfl)), F.bindsN (fun _ _ _ _ _ _ us hl => match us, hl with | [_, _, _], _ => rfl), s_left_by, m_left_by⟩
theorem o__check_ratio : DfOk K mg frs mts f__check_ratio := by
  obtain ⟨fd, F⟩ := c.all.2.2.2 (mkD "_check_ratio" 46) (List.mem_of_getElem? (i := 32) rfl)
  exact ⟨_, _, _, _, _, fd, F, He.glo_ok X G (c.all.1 (.glo "_check_ratio") (List.mem_of_getElem? (i := 32) rfl)), F.bindsN (fun _ _ _ _ _ _ us hl => match us, hl with | [_], _ => rfl), s__check_ratio, m__check_ratio⟩
theorem o_left_over : DfOk K mg frs mts f_left_over := by
  obtain ⟨fd, F⟩ := c.all.2.2.2 (mkD "left_over" 47) (List.mem_of_getElem? (i := 33) rfl)
  exact ⟨_, _, _, _, _, fd, F, He.glo_ok X G (c.all.1 (.glo "left_over") (List.mem_of_getElem? (i := 33) rfl)), F.bindsN (fun _ _ _ _ _ _ us hl => match us, hl with | [_, _, _], _ => rfl), s_left_over, m_left_over⟩
theorem o_sorted_shares : DfOk K mg frs mts f_sorted_shares := by
  obtain ⟨fd, F⟩ := c.all.2.2.2 (mkD "sorted_shares" 48) (List.mem_of_getElem? (i := 34) rfl)
  exact ⟨_, _, _, _, _, fd, F, He.glo_ok X G (c.all.1 (.glo "sorted_shares") (List.mem_of_getElem? (i := 34) rfl)), F.bindsN (fun _ _ _ _ _ _ us hl => match us, hl with | [_], _ => rfl), s_sorted_shares, m_sorted_shares⟩
theorem o_curve : DfOk K mg frs mts f_curve := by
  obtain ⟨fd, F⟩ := c.all.2.2.2 (mkD "curve" 49) (List.mem_of_getElem? (i := 35) rfl)
  exact ⟨_, _, _, _, _, fd, F, He.glo_ok X G (c.all.1 (.glo "curve") (List.mem_of_getElem? (i := 35) rfl)), F.bindsN (fun _ _ _ _ _ _ us hl => match us, hl with | [_, _], _ => rfl), s_curve, m_curve⟩
theorem o__law_draws : DfOk K mg frs mts f__law_draws := by
  obtain ⟨fd, F⟩ := c.all.2.2.2 (mkD "_law_draws" 51) (List.mem_of_getElem? (i := 36) rfl)
  exact ⟨_, _, _, _, _, fd, F, He.glo_ok X G (c.all.1 (.glo "_law_draws") (List.mem_of_getElem? (i := 36) rfl)), F.bindsN (fun _ _ _ _ _ _ us hl => match us, hl with | [_, _], _ => rfl), s__law_draws, m__law_draws⟩
theorem o__law_common : DfOk K mg frs mts f__law_common := by
  obtain ⟨fd, F⟩ := c.all.2.2.2 (mkD "_law_common" 52) (List.mem_of_getElem? (i := 37) rfl)
  exact ⟨_, _, _, _, _, fd, F, He.glo_ok X G (c.all.1 (.glo "_law_common") (List.mem_of_getElem? (i := 37) rfl)), F.bindsN (fun _ _ _ _ _ _ us hl => match us, hl with | [_, _], _ => rfl), s__law_common, m__law_common⟩
theorem o__law_lowest : DfOk K mg frs mts f__law_lowest := by
  obtain ⟨fd, F⟩ := c.all.2.2.2 (mkD "_law_lowest" 53) (List.mem_of_getElem? (i := 38) rfl)
  exact ⟨_, _, _, _, _, fd, F, He.glo_ok X G (c.all.1 (.glo "_law_lowest") (List.mem_of_getElem? (i := 38) rfl)), F.bindsN (fun _ _ _ _ _ _ us hl => match us, hl with | [_, _], _ => rfl), s__law_lowest, m__law_lowest⟩
theorem o__law_times : DfOk K mg frs mts f__law_times := by
  obtain ⟨fd, F⟩ := c.all.2.2.2 (mkD "_law_times" 54) (List.mem_of_getElem? (i := 39) rfl)
  exact ⟨_, _, _, _, _, fd, F, He.glo_ok X G (c.all.1 (.glo "_law_times") (List.mem_of_getElem? (i := 39) rfl)), F.bindsN (fun _ _ _ _ _ _ us hl => match us, hl with | [_, _], _ => rfl), s__law_times, m__law_times⟩
theorem o__law_plus : DfOk K mg frs mts f__law_plus := by
  obtain ⟨fd, F⟩ := c.all.2.2.2 (mkD "_law_plus" 55) (List.mem_of_getElem? (i := 40) rfl)
  exact ⟨_, _, _, _, _, fd, F, He.glo_ok X G (c.all.1 (.glo "_law_plus") (List.mem_of_getElem? (i := 40) rfl)), F.bindsN (fun _ _ _ _ _ _ us hl => match us, hl with | [_, _], _ => rfl), s__law_plus, m__law_plus⟩
theorem o__law_minus : DfOk K mg frs mts f__law_minus := by
  obtain ⟨fd, F⟩ := c.all.2.2.2 (mkD "_law_minus" 56) (List.mem_of_getElem? (i := 41) rfl)
  exact ⟨_, _, _, _, _, fd, F, He.glo_ok X G (c.all.1 (.glo "_law_minus") (List.mem_of_getElem? (i := 41) rfl)), F.bindsN (fun _ _ _ _ _ _ us hl => match us, hl with | [_, _], _ => rfl), s__law_minus, m__law_minus⟩
theorem o__law_is_above : DfOk K mg frs mts f__law_is_above := by
  obtain ⟨fd, F⟩ := c.all.2.2.2 (mkD "_law_is_above" 57) (List.mem_of_getElem? (i := 42) rfl)
  exact ⟨_, _, _, _, _, fd, F, He.glo_ok X G (c.all.1 (.glo "_law_is_above") (List.mem_of_getElem? (i := 42) rfl)), F.bindsN (fun _ _ _ _ _ _ us hl => match us, hl with | [_, _], _ => rfl), s__law_is_above, m__law_is_above⟩
theorem o__law_made : DfOk K mg frs mts f__law_made := by
  obtain ⟨fd, F⟩ := c.all.2.2.2 (mkD "_law_made" 58) (List.mem_of_getElem? (i := 43) rfl)
  exact ⟨_, _, _, _, _, fd, F, He.glo_ok X G (c.all.1 (.glo "_law_made") (List.mem_of_getElem? (i := 43) rfl)), F.bindsN (fun _ _ _ _ _ _ us hl => match us, hl with | [_], _ => rfl), s__law_made, m__law_made⟩
theorem o__law_spread : DfOk K mg frs mts f__law_spread := by
  obtain ⟨fd, F⟩ := c.all.2.2.2 (mkD "_law_spread" 59) (List.mem_of_getElem? (i := 44) rfl)
  exact ⟨_, _, _, _, _, fd, F, He.glo_ok X G (c.all.1 (.glo "_law_spread") (List.mem_of_getElem? (i := 44) rfl)), F.bindsN (fun _ _ _ _ _ _ us hl => match us, hl with | [_, _], _ => rfl), s__law_spread, m__law_spread⟩
theorem o__law_full : DfOk K mg frs mts f__law_full := by
  obtain ⟨fd, F⟩ := c.all.2.2.2 (mkD "_law_full" 60) (List.mem_of_getElem? (i := 45) rfl)
  exact ⟨_, _, _, _, _, fd, F, He.glo_ok X G (c.all.1 (.glo "_law_full") (List.mem_of_getElem? (i := 45) rfl)), F.bindsN (fun _ _ _ _ _ _ us hl => match us, hl with | [_, _], _ => rfl), s__law_full, m__law_full⟩
theorem o_law : DfOk K mg frs mts f_law := by
  obtain ⟨fd, F⟩ := c.all.2.2.2 (mkD "law" 61) (List.mem_of_getElem? (i := 46) rfl)
  exact ⟨_, _, _, _, _, fd, F, He.glo_ok X G (c.all.1 (.glo "law") (List.mem_of_getElem? (i := 46) rfl)), F.bindsN (fun _ _ _ _ _ _ us hl => match us, hl with | [_], _ => rfl), s_law, m_law⟩
theorem dfs_all : ∀ d ∈ dfs, DfOk K mg frs mts d := List.forall_mem_cons.mpr ⟨o_law X G c, List.forall_mem_cons.mpr ⟨o__law_full X G c, List.forall_mem_cons.mpr ⟨o__law_spread X G c, List.forall_mem_cons.mpr ⟨o__law_made X G c, List.forall_mem_cons.mpr ⟨o__law_is_above X G c, List.forall_mem_cons.mpr ⟨o__law_minus X G c, List.forall_mem_cons.mpr ⟨o__law_plus X G c, List.forall_mem_cons.mpr ⟨o__law_times X G c, List.forall_mem_cons.mpr ⟨o__law_lowest X G c, List.forall_mem_cons.mpr ⟨o__law_common X G c, List.forall_mem_cons.mpr ⟨o__law_draws X G c, List.forall_mem_cons.mpr ⟨o_curve X G c, List.forall_mem_cons.mpr ⟨o_sorted_shares X G c, List.forall_mem_cons.mpr ⟨o_left_over X G c, List.forall_mem_cons.mpr ⟨o__check_ratio X G c, List.forall_mem_cons.mpr ⟨o_left_by X G c, List.forall_mem_cons.mpr ⟨o_lefts_of X G c, List.forall_mem_cons.mpr ⟨o_ratio_at X G c, List.forall_mem_cons.mpr ⟨o_greatest_ratio X G c, List.forall_mem_cons.mpr ⟨o__check_both X G c, List.forall_mem_cons.mpr ⟨o_ratio_by X G c, List.forall_mem_cons.mpr ⟨o_ratios_of X G c, List.forall_mem_cons.mpr ⟨o_mixed X G c, List.forall_mem_cons.mpr ⟨o_mapped X G c, List.forall_mem_cons.mpr ⟨o__by_values X G c, List.forall_mem_cons.mpr ⟨o_chance_of X G c, List.forall_mem_cons.mpr ⟨o_shares_of X G c, List.forall_mem_cons.mpr ⟨o_is_chance X G c, List.forall_mem_cons.mpr ⟨o_are_pairs X G c, List.forall_mem_cons.mpr ⟨o_spread_by X G c, List.forall_mem_cons.mpr ⟨o_spread_of_weights X G c, List.forall_mem_cons.mpr ⟨o_check_spread X G c, List.forall_mem_cons.mpr ⟨o_spread_fault X G c, List.forall_mem_cons.mpr ⟨o_common_of X G c, List.forall_mem_cons.mpr ⟨o__is_weighed X G c, List.forall_mem_cons.mpr ⟨o_are_of_one_sort X G c, List.forall_mem_cons.mpr ⟨o_is_row X G c, List.forall_mem_cons.mpr ⟨o_is_value X G c, List.forall_mem_cons.mpr ⟨o_sum_up X G c, List.forall_mem_cons.mpr ⟨o_greater_of X G c, List.forall_mem_cons.mpr ⟨o_is_less X G c, List.forall_mem_cons.mpr ⟨o_times X G c, List.forall_mem_cons.mpr ⟨o_minus X G c, List.forall_mem_cons.mpr ⟨o_plus X G c, List.forall_mem_cons.mpr ⟨o_least_pair X G c, List.forall_mem_cons.mpr ⟨o_is_fraction X G c, List.forall_mem_cons.mpr ⟨o_is_integer X G c, fun _ h => by cases h⟩⟩⟩⟩⟩⟩⟩⟩⟩⟩⟩⟩⟩⟩⟩⟩⟩⟩⟩⟩⟩⟩⟩⟩⟩⟩⟩⟩⟩⟩⟩⟩⟩⟩⟩⟩⟩⟩⟩⟩⟩⟩⟩⟩⟩⟩⟩
end
def names0 : List PySem.Str := ["is_integer", "is_fraction", "least_pair", "plus", "minus", "times", "is_less", "greater_of", "sum_up", "is_value", "is_row", "are_of_one_sort", "_is_weighed", "common_of", "spread_fault", "check_spread", "spread_of_weights", "spread_by", "are_pairs", "is_chance", "shares_of", "chance_of", "_by_values", "mapped", "mixed", "ratios_of", "ratio_by", "_check_both", "greatest_ratio", "ratio_at"]
def names1 : List PySem.Str := ["lefts_of", "left_by", "_check_ratio", "left_over", "sorted_shares", "curve", "_law_draws", "_law_common", "_law_lowest", "_law_times", "_law_plus", "_law_minus", "_law_is_above", "_law_made", "_law_spread", "_law_full", "HideError", "BadSpread", "BadPairs", "BadFraction", "TooMany", "NOUGHT", "ONE", "MOST_VALUES", "FORM"]
def names : List PySem.Str := names0 ++ names1
abbrev R : PySem.W.OpenRow := PySem.W.OpenLaw.row PySem.Challenge.rw_rowhidden_k03_main_greatest_ratios_go_al
abbrev hk : PySem.W.Hook := hookP 4 fa cns mts fn
def ob (s : PySem.W.SharedT) : He.AlD := obsPG 4 fa cns mts fn (HandSHeadRun.getT s)
theorem ob_eq (s : PySem.W.SharedT) : ob s = hk.obs s.abs := obsPG_eq (HandSHeadRun.getT_eq s)
theorem hrun (w : World) : HandSHeadRun.RunEqI R (PySem.W.view R.prog [0, 61]) hk ob 8000 names w := by
  unfold HandSHeadRun.RunEqI
  kernel_rfl
theorem facts {P : Program} {w : World} {K : PySem.W.Frag} {h : Heap} {mg : Str → Option Value} {f : Addr} (X : K.In h) (G : h.Ns mainGlobals mg) (hfa : mg ("law" : Str) = some (.ref f)) (c : SaysP fa cns mts fn K) :
    ∃ fd : FuncData, (∀ (s : Shared) (u : Value), BindsTo s fd ⟨[u], []⟩ [("script", u)]) ∧ ∀ base : Heap, K.In base → base.Ns mainGlobals mg → FnOk P w K mg base CX0 47 f fd ["script"] (spP ⟨P, w, clOf mg⟩ K 1 (run ⟨fnsOf (cstOf cns) [] (dfs.drop 1), cstOf cns, []⟩ f_law.ps.length f_law.N.length f_law.body)) := by
  obtain ⟨fd, F⟩ := c.all.2.2.2 (mkD "law" 61) (List.mem_of_getElem? (i := 46) rfl)
  have e := hfa.symm.trans (He.glo_ok X G (c.all.1 (.glo "law") (List.mem_of_getElem? (i := 46) rfl)))
  cases e
  have b := FunD.bindsA (ps := ["script"]) F fun _ _ _ _ _ _ us hl => match us, hl with | [_], _ => rfl
  have M := md_ok (P := P) (w := w) (fr := frs) X G c (fun x => mem_fr X G c)
  exact ⟨fd, fun s u => b s [u] rfl, fun base _ _ => df_ok M (dfs_ok M (dfs.drop 1) fun d hd => dfs_all X G c d (List.mem_of_mem_drop hd)) F s_law m_law⟩
end K03
section
open PySem PySem.W PySem.Calls PyProof.Rows
theorem K03.holds (math : ∀ ns : List Int, ns.length ≤ 63 → (∀ z ∈ ns, Builtin.Int.intBits z ≤ 1048576) → PL.run ⟨PL.fnsOf (PL.cstOf K03.cns) [] (K03.dfs.drop 1), PL.cstOf K03.cns, []⟩ K03.f_law.ps.length K03.f_law.N.length K03.f_law.body [.list (ns.map PyData.int)] = some (.bool true)) : PySem.Challenge.rw_rowhidden_k03_main_greatest_ratios_go_al.Holds := by
  w_on; o_law
  refine HandSHeadRun.head_imp (r := OpenLaw.row PySem.Challenge.rw_rowhidden_k03_main_greatest_ratios_go_al) (q := view (OpenLaw.row PySem.Challenge.rw_rowhidden_k03_main_greatest_ratios_go_al).prog [0, 61]) (H := K03.hk) (ob := K03.ob) (M := 8000) (loose := K03.names) (d := HandSHeadRun.topDef (OpenLaw.row PySem.Challenge.rw_rowhidden_k03_main_greatest_ratios_go_al).prog 61) (kwd := []) K03.ob_eq K03.hrun (by kernel_rfl) (by kernel_rfl) (by kernel_rfl) (by rfl) (by first | assumption | decide +kernel) (by decide +kernel) ⟨rfl, rfl, rfl, rfl, rfl, by decide +kernel⟩ ?hw ?hc
  case hw => w_witness2
  case hc =>
    refine PL.walk_PL (l := PySem.Challenge.rw_rowhidden_k03_main_greatest_ratios_go_al) (n := 63) (k := 47) (x := "script") rfl (by decide) (by kernel_rfl) ⟨rfl, by decide, by decide⟩ ?F
    intro w mg fa h Y G hmg0
    obtain ⟨K, KX, c⟩ := Y
    have hmg : mg ("law" : PySem.Str) = some (.ref fa) := by
      have e : (HandSHeadRun.topDef (OpenLaw.row PySem.Challenge.rw_rowhidden_k03_main_greatest_ratios_go_al).prog 61).name = ("law" : PySem.Str) := by kernel_rfl
      rw [← e]
      exact hmg0
    obtain ⟨fd, hb, hF⟩ := K03.facts (P := (PySem.Challenge.rw_rowhidden_k03_main_greatest_ratios_go_al).prog) (w := w) KX G hmg c
    exact ⟨K, fd, _, KX, hb, hF, math⟩
end


set_option Elab.async false
set_option linter.all false
set_option maxRecDepth 100000
/-! MA: what the small defs over fractions compute. -/
namespace PL
open PySem
/-- a fraction as the program has it -/
def fr (r : Rat) : D := .tuple [.int r.num, .int (r.den : Int)]
/-- numerator and denominator have at most n bits -/
def Sz (n : Nat) (r : Rat) : Prop := r.num.natAbs < 2 ^ n ∧ r.den < 2 ^ n
theorem Sz.mono {n m : Nat} {r : Rat} (h : Sz n r) (k : n ≤ m) : Sz m r := ⟨Nat.lt_of_lt_of_le h.1 (Nat.pow_le_pow_right (by decide) k), Nat.lt_of_lt_of_le h.2 (Nat.pow_le_pow_right (by decide) k)⟩
theorem log_lt {a n : Nat} (h : a < 2 ^ n) (hn : 0 < n) : a.log2 < n := by
  by_cases h0 : a = 0
  · subst h0; simpa using hn
  · exact (Nat.log2_lt h0).mpr h
theorem log_lt' {a : Int} {n : Nat} (h : a.natAbs < 2 ^ n) (hn : 0 < n) : a.natAbs.log2 < n := log_lt h hn
theorem fr_div (a : Int) (b : Nat) (hb : 0 < b) : fr (mkRat a b) = .tuple [.int (a / (Nat.gcd a.natAbs b : Nat)), .int ((b : Int) / (Nat.gcd a.natAbs b : Nat))] := by
  have h0 : b ≠ 0 := by omega
  unfold fr
  rw [Rat.mkRat_def, dif_neg h0, Rat.normalize_eq]
  simp
theorem mkRat_sz {a : Int} {b n : Nat} (ha : a.natAbs < 2 ^ n) (hb : b < 2 ^ n) (h0 : 0 < n) : Sz n (mkRat a b) := by
  by_cases hb0 : b = 0
  · subst hb0
    simp only [Rat.mkRat_zero]
    exact ⟨by show 0 < 2 ^ n; exact Nat.two_pow_pos n, by show 1 < 2 ^ n; exact Nat.one_lt_two_pow (by omega)⟩
  · rw [Rat.mkRat_def, dif_neg hb0, Rat.normalize_eq]
    refine ⟨?_, ?_⟩
    · show (a / _ : Int).natAbs < 2 ^ n
      refine Nat.lt_of_le_of_lt ?_ ha
      exact Int.natAbs_ediv_le_natAbs a _
    · show b / _ < 2 ^ n
      exact Nat.lt_of_le_of_lt (Nat.div_le_self _ _) hb
theorem natAbs_add_lt {a b : Int} {n : Nat} (ha : a.natAbs < 2 ^ n) (hb : b.natAbs < 2 ^ n) : (a + b).natAbs < 2 ^ (n + 1) := by
  have := Int.natAbs_add_le a b
  rw [Nat.pow_succ]
  omega
theorem natAbs_mul_lt {a b : Int} {n m : Nat} (ha : a.natAbs < 2 ^ n) (hb : b.natAbs < 2 ^ m) : (a * b).natAbs < 2 ^ (n + m) := by
  rw [Int.natAbs_mul, Nat.pow_add]
  exact Nat.mul_lt_mul'' ha hb
theorem Sz.add {n m : Nat} {r s : Rat} (hr : Sz n r) (hs : Sz m s) : Sz (n + m + 1) (r + s) := by
  rw [Rat.add_def']
  refine mkRat_sz ?_ ?_ (by omega)
  · have h1 : (r.num * (s.den : Int)).natAbs < 2 ^ (n + m) := natAbs_mul_lt hr.1 (by simpa using hs.2)
    have h2 : (s.num * (r.den : Int)).natAbs < 2 ^ (n + m) := by rw [Nat.add_comm]; exact natAbs_mul_lt hs.1 (by simpa using hr.2)
    exact natAbs_add_lt h1 h2
  · rw [Nat.pow_succ, Nat.pow_add]
    have := Nat.mul_lt_mul'' hr.2 hs.2
    omega
theorem Sz.sub {n m : Nat} {r s : Rat} (hr : Sz n r) (hs : Sz m s) : Sz (n + m + 1) (r - s) := by
  rw [Rat.sub_def']
  refine mkRat_sz ?_ ?_ (by omega)
  · have h1 : (r.num * (s.den : Int)).natAbs < 2 ^ (n + m) := natAbs_mul_lt hr.1 (by simpa using hs.2)
    have h2 : (-(s.num * (r.den : Int))).natAbs < 2 ^ (n + m) := by rw [Int.natAbs_neg, Nat.add_comm]; exact natAbs_mul_lt hs.1 (by simpa using hr.2)
    rw [Int.sub_eq_add_neg]
    exact natAbs_add_lt h1 h2
  · rw [Nat.pow_succ, Nat.pow_add]
    have := Nat.mul_lt_mul'' hr.2 hs.2
    omega
theorem Sz.mul {n m : Nat} {r s : Rat} (hr : Sz n r) (hs : Sz m s) (h0 : 0 < n) : Sz (n + m) (r * s) := by
  rw [Rat.mul_def']
  refine mkRat_sz (natAbs_mul_lt hr.1 hs.1) ?_ (by omega)
  rw [Nat.pow_add]
  exact Nat.mul_lt_mul'' hr.2 hs.2
/-- least_pair of a, b > 0 -/
theorem least_pair_ok (G : Gb) (a : Int) (b : Nat) (hb : 0 < b) (h1 : b < 2 ^ 9000) : run G 2 3 K03.b_least_pair [.int a, .int b] = some (fr (mkRat a b)) := by
  rw [fr_div a b hb]
  have hgp : 0 < Nat.gcd a.natAbs b := Nat.gcd_pos_of_pos_right _ hb
  have hg : 0 < ((Nat.gcd a.natAbs b : Nat) : Int) := by omega
  have hle : Nat.gcd a.natAbs b ≤ b := Nat.gcd_le_right _ hb
  have hs : (Nat.gcd a.natAbs b).log2 < 9000 := log_lt (Nat.lt_of_le_of_lt hle h1) (by decide)
  have hn : ¬ ((b : Int) < 0) := by omega
  have hc : 0 < ((Nat.gcd a.natAbs b : Nat) : Int) ∧ (((Nat.gcd a.natAbs b : Nat) : Int)).natAbs.log2 < 9000 := ⟨hg, by simpa using hs⟩
  have e1 : opD .fdiv (.int a) (.int (Nat.gcd a.natAbs b : Nat)) = some (.int (a / (Nat.gcd a.natAbs b : Nat))) := if_pos hc
  have e2 : opD .fdiv (.int (b : Int)) (.int (Nat.gcd a.natAbs b : Nat)) = some (.int ((b : Int) / (Nat.gcd a.natAbs b : Nat))) := if_pos hc
  simp [run, K03.b_least_pair, evSs, evS, ev, evs, biD, cmpD, ltD, bindP, En.get, asB, hn, e1, e2]
end PL


set_option Elab.async false
set_option linter.all false
set_option maxRecDepth 100000
set_option exponentiation.threshold 20000
/-! MB: plus, minus, times, is_less, greater_of, sum_up. -/
namespace PL
open PySem
/-- a call's value -/
def Kn (G : Gb) (f : Str) (as : List D) (r : D) : Prop := ∃ F, G.fns f = some F ∧ F as = some r
theorem ev_call {G : Gb} {f : Str} {as : Exs} {ρ : En} {ds : List D} {r : D} (h : evs G as ρ = some ds) (k : Kn G f ds r) : ev G (.call f as) ρ = some r := by
  obtain ⟨F, h1, h2⟩ := k
  simp only [ev, h1, h, Option.bind_some, h2]
theorem mul_ok {a b : Int} {n m : Nat} (ha : a.natAbs < 2 ^ n) (hb : b.natAbs < 2 ^ m) (h : n + m < 1000000) (hn : 0 < n) (hm : 0 < m) : opD .mul (.int a) (.int b) = some (.int (a * b)) := by
  have h1 := log_lt ha hn
  have h2 := log_lt hb hm
  exact if_pos (by omega)
/-- numbers that may be multiplied and divided at ease -/
abbrev Sm (r : Rat) : Prop := Sz 4000 r
theorem Sm.num {r : Rat} (h : Sm r) : r.num.natAbs < 2 ^ 4000 := h.1
theorem Sm.den {r : Rat} (h : Sm r) : ((r.den : Int)).natAbs < 2 ^ 4000 := by simpa using h.2
theorem lp_den {r s : Rat} (hr : Sm r) (hs : Sm s) : 0 < r.den * s.den ∧ r.den * s.den < 2 ^ 9000 := by
  refine ⟨Nat.mul_pos r.den_pos s.den_pos, Nat.lt_of_lt_of_le (Nat.mul_lt_mul'' hr.2 hs.2) ?_⟩
  rw [← Nat.pow_add]
  exact Nat.pow_le_pow_right (by decide) (by decide)
abbrev LpOk (G : Gb) : Prop := ∀ (a : Int) (b : Nat), 0 < b → b < 2 ^ 9000 → Kn G "least_pair" [.int a, .int (b : Int)] (fr (mkRat a b))
theorem fr0 {T : List D} (r : Rat) : ixD T (fr r) (.int 0) = some (.int r.num) := rfl
theorem fr1 {T : List D} (r : Rat) : ixD T (fr r) (.int 1) = some (.int (r.den : Int)) := rfl
theorem add_i (a b : Int) : opD .add (.int a) (.int b) = some (.int (a + b)) := rfl
theorem sub_i (a b : Int) : opD .sub (.int a) (.int b) = some (.int (a - b)) := rfl
section
variable {G : Gb} {r s : Rat}
theorem plus_ok (L : LpOk G) (hr : Sm r) (hs : Sm s) : run G 2 2 K03.b_plus [fr r, fr s] = some (fr (r + s)) := by
  have m1 := mul_ok hr.num hs.den (by decide) (by decide) (by decide)
  have m2 := mul_ok hs.num hr.den (by decide) (by decide) (by decide)
  have m3 := mul_ok hr.den hs.den (by decide) (by decide) (by decide)
  obtain ⟨d0, d1⟩ := lp_den hr hs
  obtain ⟨F, k1, k2⟩ := L (r.num * (s.den : Int) + s.num * (r.den : Int)) (r.den * s.den) d0 d1
  rw [Int.natCast_mul] at k2
  rw [Rat.add_def']
  simp [run, K03.b_plus, evSs, evS, ev, evs, fr0, fr1, En.get, m1, m2, m3, k1, k2, add_i, sub_i]
theorem minus_ok (L : LpOk G) (hr : Sm r) (hs : Sm s) : run G 2 2 K03.b_minus [fr r, fr s] = some (fr (r - s)) := by
  have m1 := mul_ok hr.num hs.den (by decide) (by decide) (by decide)
  have m2 := mul_ok hs.num hr.den (by decide) (by decide) (by decide)
  have m3 := mul_ok hr.den hs.den (by decide) (by decide) (by decide)
  obtain ⟨d0, d1⟩ := lp_den hr hs
  obtain ⟨F, k1, k2⟩ := L (r.num * (s.den : Int) - s.num * (r.den : Int)) (r.den * s.den) d0 d1
  rw [Int.natCast_mul] at k2
  rw [Rat.sub_def']
  simp [run, K03.b_minus, evSs, evS, ev, evs, fr0, fr1, En.get, m1, m2, m3, k1, k2, add_i, sub_i]
theorem times_ok (L : LpOk G) (hr : Sm r) (hs : Sm s) : run G 2 2 K03.b_times [fr r, fr s] = some (fr (r * s)) := by
  have m1 := mul_ok hr.num hs.num (by decide) (by decide) (by decide)
  have m3 := mul_ok hr.den hs.den (by decide) (by decide) (by decide)
  obtain ⟨d0, d1⟩ := lp_den hr hs
  obtain ⟨F, k1, k2⟩ := L (r.num * s.num) (r.den * s.den) d0 d1
  rw [Int.natCast_mul] at k2
  rw [Rat.mul_def']
  simp [run, K03.b_times, evSs, evS, ev, evs, fr0, fr1, En.get, m1, m3, k1, k2]
theorem is_less_ok (hr : Sm r) (hs : Sm s) : run G 2 2 K03.b_is_less [fr r, fr s] = some (.bool (decide (r < s))) := by
  have m1 := mul_ok hr.num hs.den (by decide) (by decide) (by decide)
  have m2 := mul_ok hs.num hr.den (by decide) (by decide) (by decide)
  have e : decide (r < s) = decide (r.num * (s.den : Int) < s.num * (r.den : Int)) := decide_eq_decide.mpr (Rat.lt_iff r s)
  rw [e]
  simp [run, K03.b_is_less, evSs, evS, ev, evs, fr0, fr1, En.get, m1, m2, cmpD, ltD]
theorem greater_of_ok (L : ∀ r s, Sm r → Sm s → Kn G "is_less" [fr r, fr s] (.bool (decide (r < s)))) (hr : Sm r) (hs : Sm s) : run G 2 2 K03.b_greater_of [fr r, fr s] = some (fr (if r < s then s else r)) := by
  obtain ⟨F, k1, k2⟩ := L r s hr hs
  by_cases h : r < s
  · simp [run, K03.b_greater_of, evSs, evS, ev, evs, En.get, k1, k2, asB, h]
  · simp [run, K03.b_greater_of, evSs, evS, ev, evs, En.get, k1, k2, asB, h]
end
end PL


set_option Elab.async false
set_option linter.all false
set_option maxRecDepth 100000
set_option exponentiation.threshold 20000
/-! MC: loops; sum_up, common_of; what is a number, a fraction, a value. -/
namespace PL
open PySem
theorem forL_run {α β : Type} {step : D → En → Option Out} {g : β → D} (env : α → En) (R : List β → α → Prop) (f : α → β → α) (h : ∀ b bs s, R (b :: bs) s → step (g b) (env s) = some (.nx (env (f s b))) ∧ R bs (f s b)) : ∀ (bs : List β) (s : α), R bs s → forL step (bs.map g) (env s) = some (.nx (env (bs.foldl f s)))
  | [], s, _ => rfl
  | b :: bs, s, r => by
    obtain ⟨h1, h2⟩ := h b bs s r
    rw [List.map_cons, forL_cons, h1, Option.bind_some]
    exact forL_run env R f h bs (f s b) h2
theorem compL_map {β γ : Type} {f : D → Option (Option D)} {g : β → D} {k : γ → D} {u : β → Option γ} (h : ∀ b, f (g b) = some ((u b).map k)) : ∀ bs : List β, compL f (bs.map g) = some ((bs.filterMap u).map k)
  | [] => rfl
  | b :: bs => by
    simp only [List.map_cons, compL, h, Option.bind_some, List.filterMap_cons]
    rw [compL_map h bs]
    cases u b <;> rfl
/-- all comprehended items of a list whose items are told -/
theorem compL_all {β : Type} {f : D → Option (Option D)} {g : β → D} {k : β → D} : ∀ bs : List β, (∀ b ∈ bs, f (g b) = some (some (k b))) → compL f (bs.map g) = some (bs.map k)
  | [], _ => rfl
  | b :: bs, h => by
    simp only [List.map_cons, compL, h b List.mem_cons_self, Option.bind_some]
    rw [compL_all bs fun c hc => h c (List.mem_cons_of_mem _ hc)]
    rfl
theorem allInts_ints : ∀ l : List Int, allInts (l.map PyData.int) = some l
  | [] => rfl
  | a :: r => by simp only [List.map_cons, allInts, allInts_ints r, Option.map_some]
theorem allBools_map : ∀ l : List Bool, allBools (l.map PyData.bool) = some l
  | [] => rfl
  | a :: r => by simp only [List.map_cons, allBools, allBools_map r, Option.map_some]
section
variable {G : Gb}
theorem evSs_nx {s : St} {ss : Ss} {ρ ρ' : En} (h : evS G s ρ = some (.nx ρ')) : evSs G (.cons s ss) ρ = evSs G ss ρ' := by simp only [evSs, h, Option.bind_some]
theorem evSs_rt {s : St} {ss : Ss} {ρ : En} {d : D} (h : evS G s ρ = some (.rt d)) : evSs G (.cons s ss) ρ = some (.rt d) := by simp only [evSs, h, Option.bind_some]
theorem evS_for {p : Pat} {it : Iu} {body : Ss} {ρ : En} {ds : List D} {o : Out} (h : evI G it ρ = some ds) (k : forL (fun d ρ1 => (bindP p d ρ1).bind fun ρ2 => evSs G body ρ2) ds ρ = some o) : evS G (.for_ p it body) ρ = some o := by simp only [evS, h, Option.bind_some, k]
/-- a def's value by its body's end -/
theorem run_of {np nN : Nat} {b : Ss} {as : List D} {ρ : En} {d : D} (hl : as.length = np) (e : as.map Sl.fz ++ List.replicate (nN - np) Sl.un = ρ) (h : evSs G b ρ = some (.rt d)) : run G np nN b as = some d := by
  unfold run
  rw [if_pos hl, e, h]
  rfl
theorem is_integer_int (z : Int) : run G 1 1 K03.b_is_integer [.int z] = some (.bool true) := rfl
theorem is_integer_tup (ds : List D) : run G 1 1 K03.b_is_integer [.tuple ds] = some (.bool false) := rfl
theorem is_row_int (z : Int) : run G 1 1 K03.b_is_row [.int z] = some (.bool false) := rfl
theorem is_row_tup (ds : List D) : run G 1 1 K03.b_is_row [.tuple ds] = some (.bool true) := rfl
theorem is_value_int (h : ∀ z, Kn G "is_integer" [.int z] (.bool true)) (z : Int) : run G 1 2 K03.b_is_value [.int z] = some (.bool true) := by
  obtain ⟨F, h1, h2⟩ := h z
  simp [run, K03.b_is_value, evSs, evS, ev, evs, En.get, h1, h2, asB]
theorem common_of_ok (l : List Int) : run G 1 3 K03.b_common_of [.list (l.map PyData.int)] = some (.int (l.foldl (fun (a : Nat) z => Nat.gcd a z.natAbs) 0 : Nat)) := by
  have key : forL (fun d ρ1 => (bindP (.v 2) d ρ1).bind fun ρ2 => evSs G (.cons (.asg (.v 1) (.bi .gcd (.cons (.v 1) (.cons (.v 2) .nil)))) .nil) ρ2) (l.map PyData.int) [.fz (.list (l.map PyData.int)), .fz (.int ((0 : Nat) : Int)), .un] = some (.nx ((fun s : Nat × Sl => ([.fz (.list (l.map PyData.int)), .fz (.int (s.1 : Int)), s.2] : En)) (l.foldl (fun s z => (Nat.gcd s.1 z.natAbs, Sl.fz (.int z))) (0, .un)))) := by
    refine forL_run (fun s : Nat × Sl => ([.fz (.list (l.map PyData.int)), .fz (.int (s.1 : Int)), s.2] : En)) (fun _ _ => True) (fun s z => (Nat.gcd s.1 z.natAbs, Sl.fz (.int z))) (fun z zs s _ => ⟨?_, trivial⟩) l (0, .un) trivial
    simp [bindP, evSs, evS, ev, evs, En.get, biD]
  have e : ∀ (l : List Int) (a : Nat) (sl : Sl), (l.foldl (fun (s : Nat × Sl) z => (Nat.gcd s.1 z.natAbs, Sl.fz (.int z))) (a, sl)).1 = l.foldl (fun (a : Nat) z => Nat.gcd a z.natAbs) a := by
    intro l
    induction l with
    | nil => intro a sl; rfl
    | cons z r ih => intro a sl; exact ih _ _
  refine run_of (ρ := [.fz (.list (l.map PyData.int)), .un, .un]) rfl rfl ?_
  unfold K03.b_common_of
  rw [evSs_nx (ρ' := [.fz (.list (l.map PyData.int)), .fz (.int ((0 : Nat) : Int)), .un]) rfl, evSs_nx (evS_for (ds := l.map PyData.int) rfl key)]
  simp [evSs, evS, ev, En.get, e]
theorem sum_up_ok (hN : G.cst "NOUGHT" = some (fr 0)) (P : ∀ r s, Sm r → Sm s → Kn G "plus" [fr r, fr s] (fr (r + s))) (l : List Rat) (hl : ∀ r ∈ l, Sm r) (hs : ∀ k, Sm ((l.take k).foldl (· + ·) 0)) : run G 1 3 K03.b_sum_up [.list (l.map fr)] = some (fr (l.foldl (· + ·) 0)) := by
  have key : forL (fun d ρ1 => (bindP (.v 2) d ρ1).bind fun ρ2 => evSs G (.cons (.asg (.v 1) (.call "plus" (.cons (.v 1) (.cons (.v 2) .nil)))) .nil) ρ2) (l.map fr) [.fz (.list (l.map fr)), .fz (fr 0), .un] = some (.nx ((fun s : Rat × Sl => ([.fz (.list (l.map fr)), .fz (fr s.1), s.2] : En)) (l.foldl (fun s z => (s.1 + z, Sl.fz (fr z))) (0, .un)))) := by
    refine forL_run (fun s : Rat × Sl => ([.fz (.list (l.map fr)), .fz (fr s.1), s.2] : En)) (fun bs s => (∀ r ∈ bs, Sm r) ∧ ∀ k, Sm ((bs.take k).foldl (· + ·) s.1)) (fun s z => (s.1 + z, Sl.fz (fr z))) (fun z zs s ⟨r1, r2⟩ => ⟨?_, fun r h => r1 r (List.mem_cons_of_mem _ h), fun k => r2 (k + 1)⟩) l (0, .un) ⟨hl, hs⟩
    obtain ⟨F, k1, k2⟩ := P s.1 z (r2 0) (r1 z List.mem_cons_self)
    simp [bindP, evSs, evS, ev, evs, En.get, k1, k2]
  have e : ∀ (l : List Rat) (a : Rat) (sl : Sl), (l.foldl (fun (s : Rat × Sl) z => (s.1 + z, Sl.fz (fr z))) (a, sl)).1 = l.foldl (· + ·) a := by
    intro l
    induction l with
    | nil => intro a sl; rfl
    | cons z r ih => intro a sl; exact ih _ _
  refine run_of (ρ := [.fz (.list (l.map fr)), .un, .un]) rfl rfl ?_
  unfold K03.b_sum_up
  rw [evSs_nx (ρ' := [.fz (.list (l.map fr)), .fz (fr 0), .un]) (by simp [evS, ev, hN, bindP]), evSs_nx (evS_for (ds := l.map fr) rfl key)]
  simp [evSs, evS, ev, En.get, e]
end
end PL


set_option Elab.async false
set_option linter.all false
set_option maxRecDepth 100000
set_option exponentiation.threshold 20000
/-! MD: dicts with whole numbers as keys. -/
namespace PL
open PySem
/-- an entry with a number as its key -/
def kd (q : Int × D) : D × D := (.int q.1, q.2)
variable {T : List D}
theorem kdOf_int (k : Int) : kdOf T (.int k) = some (.num k) := rfl
theorem any_ints (k : Int) : ∀ acc : List (Int × D), ((acc.map kd).any fun p => decide (kdOf T p.1 = some (.num k))) = decide (k ∈ acc.map (·.1))
  | [] => rfl
  | q :: r => by
    rw [List.map_cons, List.any_cons, any_ints k r]
    simp only [kd, kdOf_int, Option.some.injEq, NestedKey.num.injEq, List.map_cons, List.mem_cons, Bool.decide_or]
    congr 1
    exact decide_eq_decide.mpr ⟨fun h => h.symm, fun h => h.symm⟩
theorem put_new {acc : List (Int × D)} {k : Int} {v : D} (h : k ∉ acc.map (·.1)) : putD T (acc.map kd) (.int k) (.num k) v = (acc ++ [(k, v)]).map kd := by
  unfold putD
  rw [any_ints, decide_eq_false h, List.map_append]
  rfl
theorem look_ints (k : Int) : ∀ acc : List (Int × D), lookD T (acc.map kd) (.num k) = acc.lookup k
  | [] => rfl
  | q :: r => by
    obtain ⟨j, v⟩ := q
    rw [List.map_cons]
    simp only [lookD, kd, kdOf_int, Option.some.injEq, NestedKey.num.injEq, List.lookup_cons]
    by_cases h : k = j
    · subst h; simp
    · have e : (k == j) = false := beq_eq_false_iff_ne.mpr h
      rw [if_neg (fun z => h z.symm), e]
      exact look_ints k r
theorem noO_ints : ∀ acc : List (Int × D), noO (acc.map kd) = true
  | [] => rfl
  | q :: r => rfl
theorem getK_ints (k : Int) (acc : List (Int × D)) : getK T (acc.map kd) (.int k) = some (acc.lookup k) := by
  unfold getK
  rw [if_pos (noO_ints acc), kdOf_int, Option.map_some, look_ints]
theorem keyK_ints (k : Int) (acc : List (Int × D)) : keyK T (acc.map kd) (.int k) = some (.num k) := rfl
theorem keys_ints (acc : List (Int × D)) : (acc.map kd).map (·.1) = (acc.map (·.1)).map PyData.int := by
  rw [List.map_map, List.map_map]
  rfl
theorem vals_ints (acc : List (Int × D)) : (acc.map kd).map (·.2) = acc.map (·.2) := by
  rw [List.map_map]
  rfl
/-- a dict comprehension with new keys -/
theorem compDK_new {β : Type} {f : D → Option (Option (D × D))} {g : β → D} {u : β → Option (Int × D)} : ∀ (bs : List β) (acc : List (Int × D)), (∀ b ∈ bs, f (g b) = some ((u b).map kd)) → ((acc ++ bs.filterMap u).map (·.1)).Nodup → compDK T f (bs.map g) (acc.map kd) = some ((acc ++ bs.filterMap u).map kd)
  | [], acc, _, _ => by simp [compDK]
  | b :: bs, acc, h, nd => by
    have h1 := h b List.mem_cons_self
    have h2 : ∀ c ∈ bs, f (g c) = some ((u c).map kd) := fun c hc => h c (List.mem_cons_of_mem _ hc)
    rw [List.map_cons]
    simp only [compDK, h1, Option.bind_some]
    cases hu : u b with
    | none =>
      rw [List.filterMap_cons, hu] at nd ⊢
      exact compDK_new bs acc h2 nd
    | some q =>
      obtain ⟨k, v⟩ := q
      rw [List.filterMap_cons, hu] at nd ⊢
      simp only at nd ⊢
      have hk : k ∉ acc.map (·.1) := by
        intro hk
        rw [List.map_append, List.map_cons] at nd
        have := (List.nodup_append.mp nd).2.2 k hk k List.mem_cons_self
        exact this rfl
      simp only [Option.map_some, kd, kdOf_int, Option.bind_some]
      rw [put_new hk]
      have e : acc ++ (k, v) :: bs.filterMap u = (acc ++ [(k, v)]) ++ bs.filterMap u := by simp
      rw [e] at nd ⊢
      exact compDK_new bs _ h2 nd
end PL


set_option Elab.async false
set_option linter.all false
set_option maxRecDepth 100000
set_option exponentiation.threshold 20000
/-! ME: weights; spread_of_weights. -/
namespace PL
open PySem
abbrev Wt := List (Int × Int)
def wk (w : Wt) : List (Int × D) := w.map fun q => (q.1, .int q.2)
def wD (w : Wt) : D := .dict ((wk w).map kd)
def prD (q : Int × Int) : D := .tuple [.int q.1, .int q.2]
def rowsD (w : Wt) : D := .tuple (w.map prD)
def tot (w : Wt) : Int := (w.map (·.2)).sum
def spD (w : Wt) : D := .tuple [.int (tot w), rowsD w]
def gcdL (l : List Int) : Nat := l.foldl (fun a z => Nat.gcd a z.natAbs) 0
def posW (w : Wt) : Wt := w.filter fun q => decide (0 < q.2)
def valW (w : Wt) (k : Int) : Int := (w.lookup k).getD 0
/-- the spread that weights make -/
def nrm (w : Wt) : Wt := (sortI ((posW w).map (·.1))).map fun k => (k, valW (posW w) k / (gcdL ((posW w).map (·.2)) : Int))
theorem gcdL_from : ∀ (l : List Int) (a : Nat), l.foldl (fun a z => Nat.gcd a z.natAbs) a ∣ a ∧ ∀ z ∈ l, l.foldl (fun a z => Nat.gcd a z.natAbs) a ∣ z.natAbs
  | [], a => ⟨Nat.dvd_refl a, fun z h => by cases h⟩
  | y :: r, a => by
    obtain ⟨h1, h2⟩ := gcdL_from r (Nat.gcd a y.natAbs)
    refine ⟨Nat.dvd_trans h1 (Nat.gcd_dvd_left _ _), fun z hz => ?_⟩
    rcases List.mem_cons.mp hz with e | hz
    · subst e; exact Nat.dvd_trans h1 (Nat.gcd_dvd_right _ _)
    · exact h2 z hz
theorem gcdL_dvd {l : List Int} {z : Int} (h : z ∈ l) : gcdL l ∣ z.natAbs := (gcdL_from l 0).2 z h
theorem gcdL_pos {l : List Int} {z : Int} (h : z ∈ l) (hz : z ≠ 0) : 0 < gcdL l := Nat.pos_of_dvd_of_pos (gcdL_dvd h) (Int.natAbs_pos.mpr hz)
theorem sortI_perm (l : List Int) : (sortI l).Perm l := List.mergeSort_perm _ _
theorem wk_keys (w : Wt) : (wk w).map (·.1) = w.map (·.1) := by simp [wk]
theorem wk_vals (w : Wt) : (wk w).map (·.2) = (w.map (·.2)).map PyData.int := by simp [wk]
theorem wk_lookup (k : Int) : ∀ w : Wt, (wk w).lookup k = (w.lookup k).map PyData.int
  | [] => rfl
  | (j, v) :: r => by
    show List.lookup k ((j, PyData.int v) :: wk r) = _
    rw [List.lookup_cons, List.lookup_cons]
    by_cases e : k == j
    · simp [e]
    · simp only [e]
      exact wk_lookup k r
theorem lookup_of_mem {k : Int} : ∀ {w : Wt}, k ∈ w.map (·.1) → ∃ v, w.lookup k = some v
  | [], h => by cases h
  | (j, v) :: r, h => by
    rw [List.lookup_cons]
    by_cases e : k == j
    · exact ⟨v, by simp [e]⟩
    · rcases List.mem_cons.mp h with z | h
      · exact absurd (beq_iff_eq.mpr z) e
      · obtain ⟨v', h'⟩ := lookup_of_mem h
        exact ⟨v', by simp only [e]; exact h'⟩
section
variable {G : Gb}
theorem ev_dc {own : List Nat} {k v : Ex} {p : Pat} {it : Iu} {cond : Ox} {ρ : En} {ds : List D} {kvs : List (D × D)} (h : evI G it ρ = some ds) (c : compDK G.tups (stepDK own p (fun ρ1 => evC G cond ρ1) (fun ρ1 => ev G k ρ1) (fun ρ1 => ev G v ρ1) ρ) ds [] = some kvs) : ev G (.dc own k v p it cond) ρ = some (.dict kvs) := by
  simp only [ev, h, Option.bind_some, c, Option.map_some]
theorem ev_lc {own : List Nat} {e : Ex} {p : Pat} {it : Iu} {cond : Ox} {ρ : En} {ds out : List D} (h : evI G it ρ = some ds) (c : compL (stepL own p (fun ρ1 => evC G cond ρ1) (fun ρ1 => ev G e ρ1) ρ) ds = some out) : ev G (.lc own e p it cond) ρ = some (.list out) := by
  simp only [ev, h, Option.bind_some, c, Option.map_some]
theorem items_wD (w : Wt) : itemsI (wD w) = some (w.map prD) := by
  have k := noO_ints (wk w)
  simp only [itemsI, wD, k, if_true]
  congr 1
  simp only [wk, List.map_map]
  rfl
theorem vals_wD (w : Wt) : valsI (wD w) = some ((w.map (·.2)).map PyData.int) := by
  have k := noO_ints (wk w)
  simp only [valsI, wD, k, if_true, vals_ints, wk_vals]
theorem lvals_wD (w : Wt) : lvalsI (wD w) = some (.list ((w.map (·.2)).map PyData.int)) := by
  have k := noO_ints (wk w)
  simp only [lvalsI, wD, k, if_true, vals_ints, wk_vals]
theorem len_dict_ev {T : List D} (w : Wt) : biD T .len [wD w] = some (.int w.length) := by
  simp only [biD, wD, noO_ints, if_true]
  simp [wk]
theorem sow_ok (hM : G.cst "MOST_VALUES" = some (.int 5000)) (hC : ∀ l : List Int, Kn G "common_of" [.list (l.map PyData.int)] (.int (gcdL l : Int))) (w : Wt) (nd : (w.map (·.1)).Nodup) (h63 : w.length < 64) (hp : ∃ q ∈ w, 0 < q.2) (hb : ∀ q ∈ w, q.2.natAbs < 2 ^ 250) :
    run G 1 7 K03.b_spread_of_weights [wD w] = some (spD (nrm w)) := by
  have hfl : (posW w).length < 64 := Nat.lt_of_le_of_lt (List.length_filter_le _ _) h63
  have ndf : ((posW w).map (·.1)).Nodup := List.Nodup.sublist ((List.filter_sublist (l := w)).map _) nd
  obtain ⟨F, c1, c2⟩ := hC ((posW w).map (·.2))
  obtain ⟨q0, hq0, hq1⟩ := hp
  have hq2 : q0 ∈ posW w := List.mem_filter.mpr ⟨hq0, by simpa using hq1⟩
  have hg0 : 0 < gcdL ((posW w).map (·.2)) := gcdL_pos (List.mem_map_of_mem hq2) (by omega)
  have hg1 : gcdL ((posW w).map (·.2)) < 2 ^ 250 := Nat.lt_of_le_of_lt (Nat.le_of_dvd (by omega) (gcdL_dvd (List.mem_map_of_mem hq2))) (hb q0 hq0)
  -- the dict of those that weigh
  have e1 : ev G (.dc [4, 5] (.v 4) (.v 5) (.cons (.v 4) (.cons (.v 5) .nil)) (.items (.v 0)) (.some (.cmp .gt (.v 5) (.int 0)))) [.fz (wD w), .un, .un, .un, .un, .un, .un] = some (wD (posW w)) := by
    have ei : evI G (.items (.v 0)) [.fz (wD w), .un, .un, .un, .un, .un, .un] = some (w.map prD) := items_wD w
    have k := compDK_new (T := G.tups) (f := stepDK [4, 5] (.cons (.v 4) (.cons (.v 5) .nil)) (fun ρ1 => evC G (.some (.cmp .gt (.v 5) (.int 0))) ρ1) (fun ρ1 => ev G (.v 4) ρ1) (fun ρ1 => ev G (.v 5) ρ1) [.fz (wD w), .un, .un, .un, .un, .un, .un]) (g := prD) (u := fun q : Int × Int => if 0 < q.2 then some (q.1, PyData.int q.2) else none) w [] (fun q _ => by
      by_cases h : 0 < q.2
      · simp [stepDK, prD, bindP, unpD, wipeE, evC, ev, En.get, cmpD, asB, h, kd]
      · simp [stepDK, prD, bindP, unpD, wipeE, evC, ev, En.get, cmpD, asB, h])
    have fm : w.filterMap (fun q : Int × Int => if 0 < q.2 then some (q.1, PyData.int q.2) else none) = wk (posW w) := by
      unfold wk posW
      rw [← List.filterMap_eq_filter, List.map_filterMap]
      congr 1
      funext q
      by_cases h : 0 < q.2 <;> simp [h, Option.guard]
    rw [fm] at k
    have k := k (by simpa [wk_keys] using ndf)
    exact ev_dc ei k
  refine run_of (ρ := [.fz (wD w), .un, .un, .un, .un, .un, .un]) rfl rfl ?_
  unfold K03.b_spread_of_weights
  rw [evSs_nx (ρ' := [.fz (wD w), .fz (wD (posW w)), .un, .un, .un, .un, .un]) (by simp only [evS, e1, Option.bind_some, bindP, Option.map_some]; rfl)]
  rw [evSs_nx (ρ' := [.fz (wD w), .fz (wD (posW w)), .un, .un, .un, .un, .un]) (by
    have h : ¬ (5000 : Int) < ((posW w).length : Int) := by omega
    simp [evS, evSs, ev, evs, En.get, len_dict_ev, hM, cmpD, asB, h])]
  rw [evSs_nx (ρ' := [.fz (wD w), .fz (wD (posW w)), .fz (.int (gcdL ((posW w).map (·.2)) : Int)), .un, .un, .un, .un]) (by
    simp [-List.map_map, evS, ev, evs, En.get, lvals_wD, c1, c2, bindP])]
  have ks : ((posW w).map (·.1)).length < 64 := by rw [List.length_map]; exact hfl
  have e4 : ev G (.lc [4] (.tup (.cons (.v 4) (.cons (.op .fdiv (.ix (.v 1) (.v 4)) (.v 2)) .nil))) (.v 4) (.seq (.bi .sorted (.cons (.v 1) .nil))) .non) [.fz (wD w), .fz (wD (posW w)), .fz (.int (gcdL ((posW w).map (·.2)) : Int)), .un, .un, .un, .un] = some (.list ((nrm w).map prD)) := by
    have ei : evI G (.seq (.bi .sorted (.cons (.v 1) .nil))) [.fz (wD w), .fz (wD (posW w)), .fz (.int (gcdL ((posW w).map (·.2)) : Int)), .un, .un, .un, .un] = some ((sortI ((posW w).map (·.1))).map PyData.int) := by
      have hs : biD G.tups .sorted [wD (posW w)] = some (.list ((sortI ((posW w).map (·.1))).map PyData.int)) := by
        simp only [biD, wD, noO_ints, if_true, keys_ints, wk_keys, allInts_ints, Option.map_some]
      simp [-List.map_map, evI, ev, evs, En.get, hs, seqD]
    have k := compL_all (f := stepL [4] (.v 4) (fun ρ1 => evC G .non ρ1) (fun ρ1 => ev G (.tup (.cons (.v 4) (.cons (.op .fdiv (.ix (.v 1) (.v 4)) (.v 2)) .nil))) ρ1) [.fz (wD w), .fz (wD (posW w)), .fz (.int (gcdL ((posW w).map (·.2)) : Int)), .un, .un, .un, .un]) (g := PyData.int) (k := fun k => prD (k, valW (posW w) k / (gcdL ((posW w).map (·.2)) : Int))) (sortI ((posW w).map (·.1))) (fun k hk => by
      obtain ⟨v, hv⟩ := lookup_of_mem ((sortI_perm _).mem_iff.mp hk)
      have hi : ixD G.tups (wD (posW w)) (.int k) = some (.int v) := by
        simp only [ixD, wD, getK_ints, wk_lookup, hv, Option.map_some, Option.bind_some, id]
      have hd : opD .fdiv (.int v) (.int (gcdL ((posW w).map (·.2)) : Int)) = some (.int (v / (gcdL ((posW w).map (·.2)) : Int))) := if_pos ⟨by omega, Nat.lt_trans (log_lt (n := 250) (by simpa using hg1) (by decide)) (by decide)⟩
      simp [-List.map_map, stepL, bindP, wipeE, evC, ev, evs, En.get, hi, hd, prD, valW, hv])
    have k2 := ev_lc ei k
    rw [k2]
    unfold nrm
    rw [List.map_map]
    rfl
  have e4' : ev G (.bi .tuple (.cons (.lc [4] (.tup (.cons (.v 4) (.cons (.op .fdiv (.ix (.v 1) (.v 4)) (.v 2)) .nil))) (.v 4) (.seq (.bi .sorted (.cons (.v 1) .nil))) .non) .nil)) [.fz (wD w), .fz (wD (posW w)), .fz (.int (gcdL ((posW w).map (·.2)) : Int)), .un, .un, .un, .un] = some (rowsD (nrm w)) := by
    have z : evs G (.cons (.lc [4] (.tup (.cons (.v 4) (.cons (.op .fdiv (.ix (.v 1) (.v 4)) (.v 2)) .nil))) (.v 4) (.seq (.bi .sorted (.cons (.v 1) .nil))) .non) .nil) [.fz (wD w), .fz (wD (posW w)), .fz (.int (gcdL ((posW w).map (·.2)) : Int)), .un, .un, .un, .un] = some [.list ((nrm w).map prD)] := by
      unfold evs
      rw [e4]
      rfl
    show (evs G _ _).bind _ = _
    rw [z]
    rfl
  rw [evSs_nx (ρ' := [.fz (wD w), .fz (wD (posW w)), .fz (.int (gcdL ((posW w).map (·.2)) : Int)), .fz (rowsD (nrm w)), .un, .un, .un]) (by
    show (ev G (.bi .tuple _) _).bind _ = _
    rw [e4']
    simp [bindP])]
  have e5 : ev G (.lc [6, 5] (.v 5) (.cons (.v 6) (.cons (.v 5) .nil)) (.seq (.v 3)) .non) [.fz (wD w), .fz (wD (posW w)), .fz (.int (gcdL ((posW w).map (·.2)) : Int)), .fz (rowsD (nrm w)), .un, .un, .un] = some (.list (((nrm w).map (·.2)).map PyData.int)) := by
    have k := compL_all (f := stepL [6, 5] (.cons (.v 6) (.cons (.v 5) .nil)) (fun ρ1 => evC G .non ρ1) (fun ρ1 => ev G (.v 5) ρ1) [.fz (wD w), .fz (wD (posW w)), .fz (.int (gcdL ((posW w).map (·.2)) : Int)), .fz (rowsD (nrm w)), .un, .un, .un]) (g := prD) (k := fun q : Int × Int => PyData.int q.2) (nrm w) (fun q hq => by
      simp [-List.map_map, stepL, prD, bindP, unpD, wipeE, evC, ev, En.get])
    rw [ev_lc (ds := (nrm w).map prD) (by simp [evI, ev, En.get, rowsD, seqD]) k, List.map_map]
    rfl
  have e6 : ev G (.bi .sum (.cons (.lc [6, 5] (.v 5) (.cons (.v 6) (.cons (.v 5) .nil)) (.seq (.v 3)) .non) .nil)) [.fz (wD w), .fz (wD (posW w)), .fz (.int (gcdL ((posW w).map (·.2)) : Int)), .fz (rowsD (nrm w)), .un, .un, .un] = some (.int (tot (nrm w))) := by
    have z : evs G (.cons (.lc [6, 5] (.v 5) (.cons (.v 6) (.cons (.v 5) .nil)) (.seq (.v 3)) .non) .nil) [.fz (wD w), .fz (wD (posW w)), .fz (.int (gcdL ((posW w).map (·.2)) : Int)), .fz (rowsD (nrm w)), .un, .un, .un] = some [.list (((nrm w).map (·.2)).map PyData.int)] := by
      unfold evs
      rw [e5]
      rfl
    show (evs G _ _).bind _ = _
    rw [z]
    simp only [Option.bind_some, biD, allInts_ints, Option.map_some]
    rfl
  refine evSs_rt ?_
  show (ev G (.tup _) _).map Out.rt = _
  have e7 : ev G (.tup (.cons (.bi .sum (.cons (.lc [6, 5] (.v 5) (.cons (.v 6) (.cons (.v 5) .nil)) (.seq (.v 3)) .non) .nil)) (.cons (.v 3) .nil))) [.fz (wD w), .fz (wD (posW w)), .fz (.int (gcdL ((posW w).map (·.2)) : Int)), .fz (rowsD (nrm w)), .un, .un, .un] = some (spD (nrm w)) := by
    show (evs G _ _).map PyData.tuple = _
    unfold evs
    rw [e6]
    rfl
  rw [e7]
  rfl
end
end PL


set_option Elab.async false
set_option linter.all false
set_option maxRecDepth 100000
/-! MF: a spread hangs on its weights up to scaling alone. -/
namespace PL
open PySem
theorem dvd_gcdL : ∀ (l : List Int) (a d : Nat), d ∣ l.foldl (fun a z => Nat.gcd a z.natAbs) a ↔ d ∣ a ∧ ∀ z ∈ l, d ∣ z.natAbs
  | [], a, d => by simp
  | y :: r, a, d => by
    rw [List.foldl_cons, dvd_gcdL r (Nat.gcd a y.natAbs) d, Nat.dvd_gcd_iff]
    simp only [List.mem_cons, forall_eq_or_imp]
    exact ⟨fun h => ⟨h.1.1, h.1.2, h.2⟩, fun h => ⟨⟨h.1, h.2.1⟩, h.2.2⟩⟩
theorem dvd_gcdL' (l : List Int) (d : Nat) : d ∣ gcdL l ↔ ∀ z ∈ l, d ∣ z.natAbs := by
  unfold gcdL
  rw [dvd_gcdL]
  simp
theorem gcdL_same {l l' : List Int} (h : ∀ z, z ∈ l ↔ z ∈ l') : gcdL l = gcdL l' :=
  Nat.dvd_antisymm ((dvd_gcdL' l' _).mpr fun z hz => gcdL_dvd ((h z).mpr hz)) ((dvd_gcdL' l _).mpr fun z hz => gcdL_dvd ((h z).mp hz))
theorem gcdL_mul_from (c : Nat) : ∀ (l : List Int) (a : Nat), (l.map fun z => (c : Int) * z).foldl (fun a z => Nat.gcd a z.natAbs) (c * a) = c * l.foldl (fun a z => Nat.gcd a z.natAbs) a
  | [], a => rfl
  | y :: r, a => by
    rw [List.map_cons, List.foldl_cons, List.foldl_cons, Int.natAbs_mul, Int.natAbs_natCast, Nat.gcd_mul_left]
    exact gcdL_mul_from c r _
theorem gcdL_mul (c : Nat) (l : List Int) : gcdL (l.map fun z => (c : Int) * z) = c * gcdL l := by
  have h := gcdL_mul_from c l 0
  rw [Nat.mul_zero] at h
  exact h
theorem lookup_mem_iff {w : Wt} (nd : (w.map (·.1)).Nodup) {k v : Int} : w.lookup k = some v ↔ (k, v) ∈ w := by
  induction w with
  | nil => simp
  | cons q r ih =>
    obtain ⟨j, u⟩ := q
    rw [List.map_cons, List.nodup_cons] at nd
    rw [List.lookup_cons]
    by_cases e : k = j
    · subst e
      simp only [beq_self_eq_true, Option.some.injEq, List.mem_cons, Prod.mk.injEq, true_and]
      refine ⟨fun h => .inl h.symm, fun h => ?_⟩
      rcases h with h | h
      · exact h.symm
      · exact absurd (List.mem_map_of_mem (f := Prod.fst) h) nd.1
    · have e' : (k == j) = false := beq_eq_false_iff_ne.mpr e
      simp only [e', List.mem_cons, Prod.mk.injEq, e, false_and, false_or]
      exact ih nd.2
theorem posW_nd {w : Wt} (nd : (w.map (·.1)).Nodup) : ((posW w).map (·.1)).Nodup := List.Nodup.sublist ((List.filter_sublist (l := w)).map _) nd
theorem mem_posW {w : Wt} {q : Int × Int} : q ∈ posW w ↔ q ∈ w ∧ 0 < q.2 := by simp [posW]
theorem key_pos {w : Wt} (nd : (w.map (·.1)).Nodup) {k : Int} : k ∈ (posW w).map (·.1) ↔ 0 < valW w k := by
  constructor
  · intro h
    obtain ⟨q, h1, h2⟩ := List.mem_map.mp h
    obtain ⟨h3, h4⟩ := mem_posW.mp h1
    obtain ⟨j, v⟩ := q
    simp only at h2 h4
    subst h2
    unfold valW
    rw [(lookup_mem_iff nd).mpr h3]
    exact h4
  · intro h
    unfold valW at h
    cases e : w.lookup k with
    | none => rw [e] at h; simp at h
    | some v =>
      rw [e] at h
      exact List.mem_map.mpr ⟨(k, v), mem_posW.mpr ⟨(lookup_mem_iff nd).mp e, h⟩, rfl⟩
theorem val_pos {w : Wt} (nd : (w.map (·.1)).Nodup) {k : Int} (h : k ∈ (posW w).map (·.1)) : valW (posW w) k = valW w k := by
  obtain ⟨q, h1, h2⟩ := List.mem_map.mp h
  obtain ⟨j, v⟩ := q
  simp only at h2
  subst h2
  unfold valW
  rw [(lookup_mem_iff (posW_nd nd)).mpr h1, (lookup_mem_iff nd).mpr (mem_posW.mp h1).1]
theorem pos_vals {w : Wt} (nd : (w.map (·.1)).Nodup) : (posW w).map (·.2) = ((posW w).map (·.1)).map (valW w) := by
  rw [List.map_map]
  refine List.map_congr_left fun q hq => ?_
  obtain ⟨j, v⟩ := q
  show v = valW w j
  unfold valW
  rw [(lookup_mem_iff nd).mpr (mem_posW.mp hq).1]
  rfl
theorem sortI_sorted (l : List Int) : (sortI l).Pairwise (· ≤ ·) := by
  refine List.Pairwise.imp ?_ (List.pairwise_mergeSort (le := fun a b : Int => decide (a ≤ b)) ?_ ?_ l)
  · intro a b h
    exact of_decide_eq_true h
  · intro a b c h1 h2
    simp only [decide_eq_true_eq] at h1 h2 ⊢
    omega
  · intro a b
    simp only [Bool.or_eq_true, decide_eq_true_eq]
    omega
theorem sortI_same {l l' : List Int} (h : l.Perm l') : sortI l = sortI l' := PySem.W.ksm_same ((sortI_perm l).trans (h.trans (sortI_perm l').symm)) (sortI_sorted l) (sortI_sorted l')
/-- weights in the same proportions make the same spread -/
theorem nrm_same {w w' : Wt} (nd : (w.map (·.1)).Nodup) (nd' : (w'.map (·.1)).Nodup) {c c' : Nat} (hc : 0 < c) (hc' : 0 < c') (h : ∀ k, (c : Int) * valW w k = (c' : Int) * valW w' k) : nrm w = nrm w' := by
  have keys : ∀ k, k ∈ (posW w).map (·.1) ↔ k ∈ (posW w').map (·.1) := by
    intro k
    rw [key_pos nd, key_pos nd']
    have hk := h k
    have c1 : (0 : Int) < c := by omega
    have c2 : (0 : Int) < c' := by omega
    constructor
    · intro p
      have : 0 < (c : Int) * valW w k := Int.mul_pos c1 p
      rw [hk] at this
      exact Int.lt_of_mul_lt_mul_left (a := (c' : Int)) (by rw [Int.mul_zero]; exact this) (Int.le_of_lt c2)
    · intro p
      have : 0 < (c' : Int) * valW w' k := Int.mul_pos c2 p
      rw [← hk] at this
      exact Int.lt_of_mul_lt_mul_left (a := (c : Int)) (by rw [Int.mul_zero]; exact this) (Int.le_of_lt c1)
  have perm : ((posW w).map (·.1)).Perm ((posW w').map (·.1)) := (List.perm_ext_iff_of_nodup (posW_nd nd) (posW_nd nd')).mpr keys
  have es := sortI_same perm
  have eg : c * gcdL ((posW w).map (·.2)) = c' * gcdL ((posW w').map (·.2)) := by
    rw [← gcdL_mul, ← gcdL_mul]
    refine gcdL_same fun z => ?_
    rw [pos_vals nd, pos_vals nd']
    have mm : ∀ {K : List Int} {f : Int → Int} {d : Nat}, z ∈ (K.map f).map (fun x => (d : Int) * x) ↔ ∃ k ∈ K, (d : Int) * f k = z := by
      intro K f d
      rw [List.map_map, List.mem_map]
      rfl
    rw [mm, mm]
    exact ⟨fun ⟨k, hk, e⟩ => ⟨k, (keys k).mp hk, by rw [← h k]; exact e⟩, fun ⟨k, hk, e⟩ => ⟨k, (keys k).mpr hk, by rw [h k]; exact e⟩⟩
  unfold nrm
  rw [es]
  refine List.map_congr_left fun k hk => ?_
  have hk' : k ∈ (posW w').map (·.1) := (sortI_perm _).mem_iff.mp hk
  have hk1 := (keys k).mpr hk'
  rw [val_pos nd hk1, val_pos nd' hk']
  have v1 := (key_pos nd).mp hk1
  have v2 := (key_pos nd').mp hk'
  have m1 : valW w k ∈ (posW w).map (·.2) := by rw [pos_vals nd]; exact List.mem_map_of_mem hk1
  have m2 : valW w' k ∈ (posW w').map (·.2) := by rw [pos_vals nd']; exact List.mem_map_of_mem hk'
  have g1 := gcdL_pos m1 (by omega)
  have g2 := gcdL_pos m2 (by omega)
  obtain ⟨t1, d1⟩ := Int.natAbs_dvd_natAbs.mp (by simpa using gcdL_dvd m1 : ((gcdL ((posW w).map (·.2)) : Int)).natAbs ∣ (valW w k).natAbs)
  obtain ⟨t2, d2⟩ := Int.natAbs_dvd_natAbs.mp (by simpa using gcdL_dvd m2 : ((gcdL ((posW w').map (·.2)) : Int)).natAbs ∣ (valW w' k).natAbs)
  have hk3 := h k
  generalize gcdL ((posW w).map (·.2)) = a at *
  generalize gcdL ((posW w').map (·.2)) = b at *
  have ea : ((c : Int) * a) = (c' : Int) * b := by exact_mod_cast eg
  have ha : (0 : Int) < a := by omega
  have hb : (0 : Int) < b := by omega
  rw [d1, d2, Int.mul_ediv_cancel_left _ (by omega), Int.mul_ediv_cancel_left _ (by omega)]
  rw [d1, d2, ← Int.mul_assoc, ← Int.mul_assoc, ea] at hk3
  have hcb : (0 : Int) < (c' : Int) * b := Int.mul_pos (by omega) hb
  rw [Int.eq_of_mul_eq_mul_left (Int.ne_of_gt hcb) hk3]
end PL


set_option Elab.async false
set_option linter.all false
set_option maxRecDepth 100000
/-! MG: a valid spread has no fault. -/
namespace PL
open PySem
structure Vs (w : Wt) : Prop where
  ne : w ≠ []
  len : w.length ≤ 5000
  inc : (w.map (·.1)).Pairwise (· < ·)
  pos : ∀ q ∈ w, 1 ≤ q.2
  gcd : gcdL (w.map (·.2)) = 1
theorem atI_nat {α : Type} (l : List α) {i : Nat} {x : α} (h : l[i]? = some x) : L2.atI l (i : Int) = some x := by
  have hi : i < l.length := (List.getElem?_eq_some_iff.mp h).1
  unfold L2.atI
  have e : L2.ixN l.length (i : Int) = some i := by
    unfold L2.ixN
    simp
    omega
  rw [e]
  exact h
theorem row_at {T : List D} {w : Wt} {i : Nat} {q : Int × Int} (h : w[i]? = some q) : ixD T (rowsD w) (.int (i : Int)) = some (prD q) := by
  show L2.atI (w.map prD) (i : Int) = _
  exact atI_nat _ (by rw [List.getElem?_map, h]; rfl)
theorem pr0 {T : List D} (q : Int × Int) : ixD T (prD q) (.int 0) = some (.int q.1) := rfl
theorem pr1 {T : List D} (q : Int × Int) : ixD T (prD q) (.int 1) = some (.int q.2) := rfl
theorem isi_tup (ds : List D) : isiD "tuple" (.tuple ds) = some true := by rfl
section
variable {G : Gb}
theorem is_weighed_ok (hi : ∀ z, Kn G "is_integer" [.int z] (.bool true)) (hv : ∀ z, Kn G "is_value" [.int z] (.bool true)) (q : Int × Int) (h : 1 ≤ q.2) : run G 1 1 K03.b__is_weighed [prD q] = some (.bool true) := by
  obtain ⟨F, f1, f2⟩ := hi q.2
  obtain ⟨F', g1, g2⟩ := hv q.1
  have ht : isiD "tuple" (prD q) = some true := rfl
  have hl : biD G.tups .len [prD q] = some (.int 2) := rfl
  have he : cmpD G.tups .eq (.int 2) (.int 2) = some true := rfl
  have hg : cmpD G.tups .ge (.int q.2) (.int 1) = some true := by simp [cmpD, h]
  simp [run, K03.b__is_weighed, evSs, evS, ev, evs, En.get, asB, ht, hl, he, pr0, pr1, f1, f2, g1, g2, hg]
theorem spread_fault_ok (hi : ∀ z, Kn G "is_integer" [.int z] (.bool true)) (hr : ∀ z, Kn G "is_row" [.int z] (.bool false)) (hw : ∀ q : Int × Int, 1 ≤ q.2 → Kn G "_is_weighed" [prD q] (.bool true)) (hM : G.cst "MOST_VALUES" = some (.int 5000)) (hC : ∀ l : List Int, Kn G "common_of" [.list (l.map PyData.int)] (.int (gcdL l : Int))) {w : Wt} (v : Vs w) :
    run G 1 8 K03.b_spread_fault [spD w] = some .none := by
  refine run_of (ρ := [.fz (spD w), .un, .un, .un, .un, .un, .un, .un]) rfl rfl ?_
  unfold K03.b_spread_fault
  obtain ⟨F, f1, f2⟩ := hi (tot w)
  rw [evSs_nx (ρ' := [.fz (spD w), .un, .un, .un, .un, .un, .un, .un]) (by
    have ht : isiD "tuple" (spD w) = some true := rfl
    have hl : biD G.tups .len [spD w] = some (.int 2) := rfl
    have he : cmpD G.tups .ne (.int 2) (.int 2) = some false := rfl
    have h0 : ixD G.tups (spD w) (.int 0) = some (.int (tot w)) := rfl
    simp [evS, evSs, ev, evs, En.get, asB, ht, hl, he, h0, f1, f2])]
  rw [evSs_nx (ρ' := [.fz (spD w), .fz (.int (tot w)), .fz (rowsD w), .un, .un, .un, .un, .un]) (by rfl)]
  have hlen : 1 ≤ w.length := by
    cases w with
    | nil => exact absurd rfl v.ne
    | cons _ _ => simp
  rw [evSs_nx (ρ' := [.fz (spD w), .fz (.int (tot w)), .fz (rowsD w), .un, .un, .un, .un, .un]) (by
    have ht : isiD "tuple" (rowsD w) = some true := rfl
    have hl : biD G.tups .len [rowsD w] = some (.int w.length) := by simp [biD, rowsD]
    have h1 : cmpD G.tups .le (.int 1) (.int w.length) = some true := by simp [cmpD]; omega
    have h2 : cmpD G.tups .le (.int w.length) (.int 5000) = some true := by have := v.len; simp [cmpD]; omega
    simp [evS, evSs, ev, evs, En.get, asB, ht, hl, h1, h2, hM])]
  obtain ⟨q0, hq0⟩ : ∃ q0, w[0]? = some q0 := ⟨w[0], List.getElem?_eq_getElem hlen⟩
  have key : forL (fun d ρ1 => (bindP (.cons (.v 3) (.cons (.v 4) .nil)) d ρ1).bind fun ρ2 => evSs G (.cons (.ife (.or_ (.not_ (.call "_is_weighed" (.cons (.v 4) .nil))) (.cmp .ne (.call "is_row" (.cons (.ix (.v 4) (.int 0)) .nil)) (.call "is_row" (.cons (.ix (.ix (.v 2) (.int 0)) (.int 0)) .nil)))) (.cons (.ret (.tup (.cons (.str "row") (.cons (.v 3) .nil)))) .nil) .nil) (.cons (.ife (.and_ (.cmp .gt (.v 3) (.int 0)) (.not_ (.cmp .lt (.ix (.ix (.v 2) (.op .sub (.v 3) (.int 1))) (.int 0)) (.ix (.v 4) (.int 0))))) (.cons (.ret (.tup (.cons (.str "row") (.cons (.v 3) .nil)))) .nil) .nil) .nil)) ρ2)
      (w.zipIdx.map fun b => .tuple [.int (b.2 : Int), prD b.1]) [.fz (spD w), .fz (.int (tot w)), .fz (rowsD w), .un, .un, .un, .un, .un] = some (.nx ((fun s : Sl × Sl => ([.fz (spD w), .fz (.int (tot w)), .fz (rowsD w), s.1, s.2, .un, .un, .un] : En)) (w.zipIdx.foldl (fun _ b => (Sl.fz (.int (b.2 : Int)), Sl.fz (prD b.1))) (.un, .un)))) := by
    refine forL_run (fun s : Sl × Sl => ([.fz (spD w), .fz (.int (tot w)), .fz (rowsD w), s.1, s.2, .un, .un, .un] : En)) (fun bs _ => ∀ b ∈ bs, w[b.2]? = some b.1) (fun _ b => (Sl.fz (.int (b.2 : Int)), Sl.fz (prD b.1))) (fun b bs s r => ⟨?_, fun c hc => r c (List.mem_cons_of_mem _ hc)⟩) w.zipIdx (.un, .un) (fun b hb => by
      obtain ⟨q, i⟩ := b
      exact List.mem_zipIdx_iff_getElem?.mp hb)
    obtain ⟨q, i⟩ := b
    have hq : w[i]? = some q := r (q, i) List.mem_cons_self
    have hp := v.pos q (List.mem_of_getElem? hq)
    obtain ⟨W, w1, w2⟩ := hw q hp
    obtain ⟨R, r1, r2⟩ := hr q.1
    obtain ⟨R', r1', r2'⟩ := hr q0.1
    rw [r1] at r1'
    cases r1'
    have hne : cmpD G.tups .ne (.bool false) (.bool false) = some false := rfl
    have h00 : ixD G.tups (rowsD w) (.int 0) = some (prD q0) := row_at (i := 0) hq0
    have c2 : evS G (.ife (.and_ (.cmp .gt (.v 3) (.int 0)) (.not_ (.cmp .lt (.ix (.ix (.v 2) (.op .sub (.v 3) (.int 1))) (.int 0)) (.ix (.v 4) (.int 0))))) (.cons (.ret (.tup (.cons (.str "row") (.cons (.v 3) .nil)))) .nil) .nil) [.fz (spD w), .fz (.int (tot w)), .fz (rowsD w), .fz (.int (i : Int)), .fz (prD q), .un, .un, .un] = some (.nx [.fz (spD w), .fz (.int (tot w)), .fz (rowsD w), .fz (.int (i : Int)), .fz (prD q), .un, .un, .un]) := by
      cases i with
      | zero => simp [evS, evSs, ev, En.get, asB, cmpD]
      | succ j =>
        have hj : j < w.length := by have := (List.getElem?_eq_some_iff.mp hq).1; omega
        have hq' : w[j]? = some w[j] := List.getElem?_eq_getElem hj
        have hx : ixD G.tups (rowsD w) (.int (((j + 1 : Nat) : Int) - 1)) = some (prD w[j]) := by
          rw [show ((j + 1 : Nat) : Int) - 1 = (j : Int) by omega]
          exact row_at hq'
        have hlt : w[j].1 < q.1 := by
          obtain ⟨h1, h2⟩ := List.getElem?_eq_some_iff.mp hq
          have := List.pairwise_iff_getElem.mp v.inc j (j + 1) (by simpa using hj) (by simpa using h1) (by omega)
          simpa [h2] using this
        have hgt : cmpD G.tups .gt (.int ((j + 1 : Nat) : Int)) (.int 0) = some true := by simp [cmpD] <;> omega
        have hl2 : cmpD G.tups .lt (.int w[j].1) (.int q.1) = some true := by simp [cmpD, ltD, hlt]
        simp only [evS, evSs, ev, En.get, asB, List.getElem?_cons_zero, List.getElem?_cons_succ, Option.bind_some, Option.map_some, hgt, if_true, sub_i, hx, pr0, hl2, Bool.not_true, Bool.false_eq_true, if_false]
    simp only [bindP, unpD, Option.bind_some, List.set_cons_succ, List.set_cons_zero]
    rw [evSs_nx (ρ' := [.fz (spD w), .fz (.int (tot w)), .fz (rowsD w), .fz (.int (i : Int)), .fz (prD q), .un, .un, .un]) (by
      simp [evS, evSs, ev, evs, En.get, asB, w1, w2, r1, r2, r2', pr0, h00, hne])]
    rw [evSs_nx c2]
    rfl
  generalize hs : w.zipIdx.foldl (fun _ b => (Sl.fz (.int (b.2 : Int)), Sl.fz (prD b.1))) ((Sl.un, Sl.un) : Sl × Sl) = st at key
  have hen : evI G (.enum (.v 2)) [.fz (spD w), .fz (.int (tot w)), .fz (rowsD w), .un, .un, .un, .un, .un] = some (w.zipIdx.map fun b => .tuple [.int (b.2 : Int), prD b.1]) := by
    show enumI (rowsD w) = _
    simp only [enumI, rowsD, enumD, List.zipIdx_map, List.map_map]
    rfl
  rw [evSs_nx (evS_for hen key)]
  have e5 : ev G (.lc [6, 7] (.v 7) (.cons (.v 6) (.cons (.v 7) .nil)) (.seq (.v 2)) .non) [.fz (spD w), .fz (.int (tot w)), .fz (rowsD w), st.1, st.2, .un, .un, .un] = some (.list ((w.map (·.2)).map PyData.int)) := by
    have k := compL_all (f := stepL [6, 7] (.cons (.v 6) (.cons (.v 7) .nil)) (fun ρ1 => evC G .non ρ1) (fun ρ1 => ev G (.v 7) ρ1) [.fz (spD w), .fz (.int (tot w)), .fz (rowsD w), st.1, st.2, .un, .un, .un]) (g := prD) (k := fun q : Int × Int => PyData.int q.2) w (fun q hq => by
      simp [-List.map_map, stepL, prD, bindP, unpD, wipeE, evC, ev, En.get])
    rw [ev_lc (ds := w.map prD) (by rfl) k, List.map_map]
    rfl
  rw [evSs_nx (ρ' := [.fz (spD w), .fz (.int (tot w)), .fz (rowsD w), st.1, st.2, .fz (.list ((w.map (·.2)).map PyData.int)), .un, .un]) (by
    show (ev G _ _).bind _ = _
    rw [e5]
    rfl)]
  have hsum : biD G.tups .sum [.list ((w.map (·.2)).map PyData.int)] = some (.int (tot w)) := by
    simp only [biD, allInts_ints, Option.map_some]
    rfl
  have hne : cmpD G.tups .ne (.int (tot w)) (.int (tot w)) = some false := by
    simp [cmpD, PyData.eqv, SeqAt.shaped, PyData.canLay0, PyData.depth]
  rw [evSs_nx (ρ' := [.fz (spD w), .fz (.int (tot w)), .fz (rowsD w), st.1, st.2, .fz (.list ((w.map (·.2)).map PyData.int)), .un, .un]) (by
    simp [-List.map_map, evS, evSs, ev, evs, En.get, asB, hsum, hne])]
  obtain ⟨F2, k1, k2⟩ := hC (w.map (·.2))
  rw [v.gcd] at k2
  have k2 : F2 [.list ((w.map (·.2)).map PyData.int)] = some (.int 1) := k2
  have hg : cmpD G.tups .gt (.int 1) (.int 1) = some false := by simp [cmpD]
  refine evSs_rt ?_
  simp [-List.map_map, evS, evSs, ev, evs, En.get, asB, k1, k2, hg]
end
end PL


set_option Elab.async false
set_option linter.all false
set_option maxRecDepth 100000
/-! MH: weights make a valid spread. -/
namespace PL
open PySem
theorem lt_of_sorted : ∀ {l : List Int}, l.Pairwise (· ≤ ·) → l.Nodup → l.Pairwise (· < ·)
  | [], _, _ => .nil
  | a :: r, h, nd => by
    rw [List.pairwise_cons] at h ⊢
    rw [List.nodup_cons] at nd
    exact ⟨fun b hb => by
      have h1 := h.1 b hb
      have h2 : a ≠ b := fun e => nd.1 (e ▸ hb)
      omega, lt_of_sorted h.2 nd.2⟩
theorem nrm_keys (w : Wt) : (nrm w).map (·.1) = sortI ((posW w).map (·.1)) := by
  unfold nrm
  rw [List.map_map]
  show (sortI _).map (fun k => k) = _
  exact List.map_id _
theorem mem_nrm {w : Wt} (nd : (w.map (·.1)).Nodup) {q : Int × Int} (h : q ∈ nrm w) : q.1 ∈ (posW w).map (·.1) ∧ 0 < valW w q.1 ∧ (gcdL ((posW w).map (·.2)) : Int) * q.2 = valW w q.1 ∧ 0 < gcdL ((posW w).map (·.2)) := by
  unfold nrm at h
  obtain ⟨k, hk, e⟩ := List.mem_map.mp h
  have hk1 : k ∈ (posW w).map (·.1) := (sortI_perm _).mem_iff.mp hk
  have hv := (key_pos nd).mp hk1
  have m1 : valW w k ∈ (posW w).map (·.2) := by rw [pos_vals nd]; exact List.mem_map_of_mem hk1
  have g1 := gcdL_pos m1 (by omega)
  subst e
  refine ⟨hk1, hv, ?_, g1⟩
  show (gcdL _ : Int) * (valW (posW w) k / _) = _
  rw [val_pos nd hk1]
  exact Int.mul_ediv_cancel' (Int.natAbs_dvd_natAbs.mp (by simpa using gcdL_dvd m1))
theorem nrm_vs {w : Wt} (nd : (w.map (·.1)).Nodup) (hl : w.length ≤ 5000) (hp : ∃ q ∈ w, 0 < q.2) : Vs (nrm w) := by
  obtain ⟨q0, h1, h2⟩ := hp
  have hq2 : q0 ∈ posW w := mem_posW.mpr ⟨h1, h2⟩
  have len : (nrm w).length = (posW w).length := by
    have := congrArg List.length (nrm_keys w)
    simpa [(sortI_perm _).length_eq] using this
  refine ⟨fun e => ?_, ?_, ?_, fun q hq => ?_, ?_⟩
  · rw [e] at len
    have : 0 < (posW w).length := List.length_pos_of_mem hq2
    simp at len
    omega
  · rw [len]
    exact Nat.le_trans (List.length_filter_le _ _) hl
  · rw [nrm_keys]
    exact lt_of_sorted (sortI_sorted _) ((sortI_perm _).nodup_iff.mpr (posW_nd nd))
  · obtain ⟨_, a, b, c⟩ := mem_nrm nd hq
    have hc : (0 : Int) < (gcdL ((posW w).map (·.2)) : Int) := by omega
    rw [← b] at a
    have : 0 < q.2 := Int.lt_of_mul_lt_mul_left (a := (gcdL ((posW w).map (·.2)) : Int)) (by rw [Int.mul_zero]; exact a) (Int.le_of_lt hc)
    omega
  · have g1 : 0 < gcdL ((posW w).map (·.2)) := gcdL_pos (List.mem_map_of_mem hq2) (by omega)
    have e : gcdL (((nrm w).map (·.2)).map fun z => (gcdL ((posW w).map (·.2)) : Int) * z) = gcdL ((posW w).map (·.2)) := by
      refine gcdL_same fun z => ?_
      constructor
      · intro hz
        obtain ⟨y, hy, e⟩ := List.mem_map.mp hz
        obtain ⟨q, hq, e2⟩ := List.mem_map.mp hy
        obtain ⟨a, _, b, _⟩ := mem_nrm nd hq
        rw [pos_vals nd]
        refine List.mem_map.mpr ⟨q.1, a, ?_⟩
        rw [← b, e2, e]
      · intro hz
        rw [pos_vals nd] at hz
        obtain ⟨k, hk, e⟩ := List.mem_map.mp hz
        have hk' : k ∈ (nrm w).map (·.1) := by rw [nrm_keys]; exact (sortI_perm _).mem_iff.mpr hk
        obtain ⟨q, hq, e2⟩ := List.mem_map.mp hk'
        obtain ⟨_, _, b, _⟩ := mem_nrm nd hq
        refine List.mem_map.mpr ⟨q.2, List.mem_map_of_mem hq, ?_⟩
        rw [b, e2, e]
    rw [gcdL_mul] at e
    exact Nat.eq_of_mul_eq_mul_left g1 (by rw [e, Nat.mul_one])
end PL


set_option Elab.async false
set_option linter.all false
set_option maxRecDepth 100000
set_option exponentiation.threshold 20000
/-! MI: chances. -/
namespace PL
open PySem
theorem tot_pos : ∀ {w : Wt}, w ≠ [] → (∀ q ∈ w, 1 ≤ q.2) → 0 < tot w
  | [], h, _ => absurd rfl h
  | [q], _, hp => by
    have := hp q List.mem_cons_self
    simp [tot]
    omega
  | q :: p :: r, _, hp => by
    have h1 := hp q List.mem_cons_self
    have h2 := tot_pos (w := p :: r) (by simp) fun x hx => hp x (List.mem_cons_of_mem _ hx)
    simp only [tot, List.map_cons, List.sum_cons] at h2 ⊢
    omega
/-- a value's chance -/
def pr (w : Wt) (k : Int) : Rat := mkRat (valW w k) (tot w).toNat
def shK (w : Wt) : List (Int × D) := w.map fun q => (q.1, fr (mkRat q.2 (tot w).toNat))
def shD (w : Wt) : D := .dict ((shK w).map kd)
section
variable {G : Gb}
theorem shares_of_ok (L : LpOk G) {w : Wt} (v : Vs w) (ht : (tot w).toNat < 2 ^ 9000) : run G 1 3 K03.b_shares_of [spD w] = some (shD w) := by
  have tp := tot_pos v.ne v.pos
  have et : ((tot w).toNat : Int) = tot w := Int.toNat_of_nonneg (by omega)
  have ei : evI G (.seq (.ix (.v 0) (.int 1))) [.fz (spD w), .un, .un] = some (w.map prD) := by rfl
  have nd : (w.map (·.1)).Nodup := v.inc.imp fun h => Int.ne_of_lt h
  have k := compDK_new (T := G.tups) (f := stepDK [1, 2] (.cons (.v 1) (.cons (.v 2) .nil)) (fun ρ1 => evC G .non ρ1) (fun ρ1 => ev G (.v 1) ρ1) (fun ρ1 => ev G (.call "least_pair" (.cons (.v 2) (.cons (.ix (.v 0) (.int 0)) .nil))) ρ1) [.fz (spD w), .un, .un]) (g := prD) (u := fun q : Int × Int => some (q.1, fr (mkRat q.2 (tot w).toNat))) w [] (fun q _ => by
    obtain ⟨F, f1, f2⟩ := L q.2 (tot w).toNat (by omega) ht
    rw [et] at f2
    have h0 : ixD G.tups (spD w) (.int 0) = some (.int (tot w)) := rfl
    simp [stepDK, prD, bindP, unpD, wipeE, evC, ev, evs, En.get, f1, f2, h0, kd])
  have fm : w.filterMap (fun q : Int × Int => some (q.1, fr (mkRat q.2 (tot w).toNat))) = shK w := by
    unfold shK
    rw [← List.filterMap_eq_map]
    rfl
  rw [fm] at k
  have k := k (by
    simp only [List.nil_append, shK, List.map_map]
    exact nd)
  refine run_of (ρ := [.fz (spD w), .un, .un]) rfl rfl ?_
  unfold K03.b_shares_of
  refine evSs_rt ?_
  show (ev G (.dc _ _ _ _ _ _) _).map Out.rt = _
  rw [ev_dc ei k]
  rfl
theorem shK_lookup (k : Int) (w' : Wt) : ∀ w : Wt, (w.map fun q => (q.1, fr (mkRat q.2 (tot w').toNat))).lookup k = (w.lookup k).map fun v => fr (mkRat v (tot w').toNat)
  | [] => rfl
  | (j, v) :: r => by
    rw [List.map_cons, List.lookup_cons, List.lookup_cons]
    by_cases e : k == j
    · simp [e]
    · simp only [e]
      exact shK_lookup k w' r
theorem chance_of_ok (hN : G.cst "NOUGHT" = some (fr 0)) (hck : ∀ w, Vs w → Kn G "check_spread" [spD w] .none) (hv : ∀ z, Kn G "is_value" [.int z] (.bool true)) {w : Wt} (v : Vs w) (hs : Kn G "shares_of" [spD w] (shD w)) (k : Int) : run G 2 2 K03.b_chance_of [spD w, .int k] = some (fr (pr w k)) := by
  obtain ⟨F, f1, f2⟩ := hck w v
  obtain ⟨F', g1, g2⟩ := hv k
  obtain ⟨S, s1, s2⟩ := hs
  have hd : dget G.tups (shD w) (.int k) (fr 0) = some (fr (pr w k)) := by
    simp only [dget, shD, getK_ints, Option.map_some, Option.some.injEq]
    unfold shK pr valW
    rw [shK_lookup]
    cases w.lookup k with
    | none => simp
    | some v => rfl
  refine run_of (ρ := [.fz (spD w), .fz (.int k)]) rfl rfl ?_
  unfold K03.b_chance_of
  rw [evSs_nx (ρ' := [.fz (spD w), .fz (.int k)]) (by simp [evS, ev, evs, En.get, f1, f2])]
  rw [evSs_nx (ρ' := [.fz (spD w), .fz (.int k)]) (by simp [evS, evSs, ev, evs, En.get, g1, g2, asB])]
  refine evSs_rt ?_
  simp [evS, ev, evs, En.get, s1, s2, hN, hd]
theorem check_spread_ok {w : Wt} (h : Kn G "spread_fault" [spD w] .none) : run G 1 1 K03.b_check_spread [spD w] = some .none := by
  obtain ⟨F, f1, f2⟩ := h
  simp [run, K03.b_check_spread, evSs, evS, ev, evs, En.get, f1, f2, asB, isNo]
end
end PL


set_option Elab.async false
set_option linter.all false
set_option maxRecDepth 100000
/-! MJ: a spread by its shares. -/
namespace PL
open PySem
abbrev Sh := List (Int × Rat)
def sk (ps : Sh) : List (Int × D) := ps.map fun q => (q.1, fr q.2)
def sD (ps : Sh) : D := .dict ((sk ps).map kd)
def lcmS (ps : Sh) : Nat := ps.foldl (fun a q => Nat.lcm a q.2.den) 1
/-- the weights that the shares make -/
def scW (ps : Sh) : Wt := ps.map fun q => (q.1, q.2.num * ((lcmS ps : Int) / (q.2.den : Int)))
theorem lcm_from : ∀ (ps : Sh) (a : Nat), a ∣ ps.foldl (fun a q => Nat.lcm a q.2.den) a ∧ ∀ q ∈ ps, q.2.den ∣ ps.foldl (fun a q => Nat.lcm a q.2.den) a
  | [], a => ⟨Nat.dvd_refl a, fun q h => by cases h⟩
  | p :: r, a => by
    obtain ⟨h1, h2⟩ := lcm_from r (Nat.lcm a p.2.den)
    refine ⟨Nat.dvd_trans (Nat.dvd_lcm_left _ _) h1, fun q hq => ?_⟩
    rcases List.mem_cons.mp hq with e | hq
    · subst e; exact Nat.dvd_trans (Nat.dvd_lcm_right _ _) h1
    · exact h2 q hq
theorem lcm_dvd_from {M : Nat} : ∀ (ps : Sh) (a : Nat), a ∣ M → (∀ q ∈ ps, q.2.den ∣ M) → ps.foldl (fun a q => Nat.lcm a q.2.den) a ∣ M
  | [], a, h, _ => h
  | p :: r, a, h, hq => lcm_dvd_from r _ (Nat.lcm_dvd h (hq p List.mem_cons_self)) fun q h' => hq q (List.mem_cons_of_mem _ h')
theorem items_sD (ps : Sh) : itemsI (sD ps) = some (ps.map fun q => .tuple [.int q.1, fr q.2]) := by
  have k := noO_ints (sk ps)
  simp only [itemsI, sD, k, if_true]
  congr 1
  simp only [sk, List.map_map]
  rfl
theorem vals_sD (ps : Sh) : valsI (sD ps) = some (ps.map fun q => fr q.2) := by
  have k := noO_ints (sk ps)
  simp only [valsI, sD, k, if_true, vals_ints]
  simp only [sk, List.map_map]
  rfl
section
variable {G : Gb}
theorem spread_by_ok {M : Nat} (hM0 : 0 < M) (hM : M < 2 ^ 64) (ps : Sh) (hd : ∀ q ∈ ps, q.2.den ∣ M) (nd : (ps.map (·.1)).Nodup) (hb : ∀ q ∈ ps, q.2.num.natAbs < 2 ^ 100) (hs : Kn G "spread_of_weights" [wD (scW ps)] (spD (nrm (scW ps)))) : run G 1 4 K03.b_spread_by [sD ps] = some (spD (nrm (scW ps))) := by
  have key : forL (fun d ρ1 => (bindP (.v 2) d ρ1).bind fun ρ2 => evSs G (.cons (.asg (.v 1) (.bi .lcm (.cons (.v 1) (.cons (.ix (.v 2) (.int 1)) .nil)))) .nil) ρ2) (ps.map fun q => fr q.2) [.fz (sD ps), .fz (.int ((1 : Nat) : Int)), .un, .un] = some (.nx ((fun s : Nat × Sl => ([.fz (sD ps), .fz (.int (s.1 : Int)), s.2, .un] : En)) (ps.foldl (fun s q => (Nat.lcm s.1 q.2.den, Sl.fz (fr q.2))) (1, .un)))) := by
    refine forL_run (fun s : Nat × Sl => ([.fz (sD ps), .fz (.int (s.1 : Int)), s.2, .un] : En)) (fun bs s => s.1 ∣ M ∧ ∀ q ∈ bs, q.2.den ∣ M) (fun s q => (Nat.lcm s.1 q.2.den, Sl.fz (fr q.2))) (fun q qs s ⟨r1, r2⟩ => ⟨?_, Nat.lcm_dvd r1 (r2 q List.mem_cons_self), fun x h => r2 x (List.mem_cons_of_mem _ h)⟩) ps (1, .un) ⟨Nat.one_dvd M, hd⟩
    have l1 : s.1 < 2 ^ 64 := Nat.lt_of_le_of_lt (Nat.le_of_dvd hM0 r1) hM
    have l2 : q.2.den < 2 ^ 64 := Nat.lt_of_le_of_lt (Nat.le_of_dvd hM0 (r2 q List.mem_cons_self)) hM
    have hl : biD G.tups .lcm [.int (s.1 : Int), .int (q.2.den : Int)] = some (.int ((Nat.lcm s.1 q.2.den : Nat) : Int)) := by
      simp only [biD]
      rw [if_pos ⟨by simpa using l1, by simpa using l2⟩]
      simp
    simp [bindP, evSs, evS, ev, evs, En.get, fr1, hl]
  have e : ∀ (ps : Sh) (a : Nat) (sl : Sl), (ps.foldl (fun (s : Nat × Sl) q => (Nat.lcm s.1 q.2.den, Sl.fz (fr q.2))) (a, sl)).1 = ps.foldl (fun a q => Nat.lcm a q.2.den) a := by
    intro ps
    induction ps with
    | nil => intro a sl; rfl
    | cons z r ih => intro a sl; exact ih _ _
  generalize hst : ps.foldl (fun (s : Nat × Sl) q => (Nat.lcm s.1 q.2.den, Sl.fz (fr q.2))) (1, Sl.un) = st at key
  have e1 : st.1 = lcmS ps := by rw [← hst, e]; rfl
  have hL : lcmS ps ∣ M := lcm_dvd_from ps 1 (Nat.one_dvd M) hd
  have hL64 : lcmS ps < 2 ^ 64 := Nat.lt_of_le_of_lt (Nat.le_of_dvd hM0 hL) hM
  have k := compDK_new (T := G.tups) (f := stepDK [3, 2] (.cons (.v 3) (.cons (.v 2) .nil)) (fun ρ1 => evC G .non ρ1) (fun ρ1 => ev G (.v 3) ρ1) (fun ρ1 => ev G (.op .mul (.ix (.v 2) (.int 0)) (.op .fdiv (.v 1) (.ix (.v 2) (.int 1)))) ρ1) [.fz (sD ps), .fz (.int (lcmS ps : Int)), st.2, .un]) (g := fun q : Int × Rat => .tuple [.int q.1, fr q.2]) (u := fun q : Int × Rat => some (q.1, PyData.int (q.2.num * ((lcmS ps : Int) / (q.2.den : Int))))) ps [] (fun q hq => by
    have hdv : opD .fdiv (.int (lcmS ps : Int)) (.int (q.2.den : Int)) = some (.int ((lcmS ps : Int) / (q.2.den : Int))) := by
      have l2 : q.2.den < 2 ^ 64 := Nat.lt_of_le_of_lt (Nat.le_of_dvd hM0 (hd q hq)) hM
      exact if_pos ⟨by have := q.2.den_pos; omega, Nat.lt_trans (log_lt (n := 64) (by simpa using l2) (by decide)) (by decide)⟩
    have hml : opD .mul (.int q.2.num) (.int ((lcmS ps : Int) / (q.2.den : Int))) = some (.int (q.2.num * ((lcmS ps : Int) / (q.2.den : Int)))) := by
      refine mul_ok (n := 100) (m := 64) (hb q hq) ?_ (by decide) (by decide) (by decide)
      exact Nat.lt_of_le_of_lt (Int.natAbs_ediv_le_natAbs _ _) (by simpa using hL64)
    simp [stepDK, bindP, unpD, wipeE, evC, ev, En.get, fr0, fr1, hdv, hml, kd])
  have fm : ps.filterMap (fun q : Int × Rat => some (q.1, PyData.int (q.2.num * ((lcmS ps : Int) / (q.2.den : Int))))) = wk (scW ps) := by
    unfold wk scW
    rw [List.map_map, ← List.filterMap_eq_map]
    rfl
  rw [fm] at k
  have k := k (by
    simp only [List.nil_append, wk_keys, scW, List.map_map]
    exact nd)
  refine run_of (ρ := [.fz (sD ps), .un, .un, .un]) rfl rfl ?_
  unfold K03.b_spread_by
  rw [evSs_nx (ρ' := [.fz (sD ps), .fz (.int ((1 : Nat) : Int)), .un, .un]) rfl]
  have hv : evI G (.vals (.v 0)) [.fz (sD ps), .fz (.int ((1 : Nat) : Int)), .un, .un] = some (ps.map fun q => fr q.2) := vals_sD ps
  rw [evSs_nx (evS_for hv key)]
  simp only [e1]
  have hit : evI G (.items (.v 0)) [.fz (sD ps), .fz (.int (lcmS ps : Int)), st.2, .un] = some (ps.map fun q => .tuple [.int q.1, fr q.2]) := items_sD ps
  refine evSs_rt ?_
  show (ev G (.call _ _) _).map Out.rt = _
  rw [ev_call (ds := [wD (scW ps)]) (by
    unfold evs
    rw [ev_dc hit k]
    rfl) hs]
  rfl
end
end PL


set_option Elab.async false
set_option linter.all false
set_option maxRecDepth 100000
/-! MK: a spread hangs on its shares alone. -/
namespace PL
open PySem
def valS (ps : Sh) (k : Int) : Rat := (ps.lookup k).getD 0
theorem den_mul (q : Rat) : (q.den : Rat) * q = (q.num : Rat) := by
  have h : mkRat q.num q.den = q := Rat.mkRat_self q
  have hd : (q.den : Rat) ≠ 0 := by exact_mod_cast q.den_nz
  have e : (q.num : Rat) / (q.den : Rat) = q := by rw [← Rat.mkRat_eq_div]; exact h
  calc (q.den : Rat) * q = (q.den : Rat) * ((q.num : Rat) / (q.den : Rat)) := by rw [e]
    _ = (q.num : Rat) := by grind
theorem lcmS_pos (ps : Sh) : 0 < lcmS ps := by
  have : ∀ (ps : Sh) (a : Nat), 0 < a → 0 < ps.foldl (fun a q => Nat.lcm a q.2.den) a := by
    intro ps
    induction ps with
    | nil => intro a h; exact h
    | cons q r ih => intro a h; exact ih _ (Nat.lcm_pos h q.2.den_pos)
  exact this ps 1 (by decide)
theorem scale_one (q : Rat) {L : Nat} (h : q.den ∣ L) : ((q.num * ((L : Int) / (q.den : Int)) : Int) : Rat) = (L : Rat) * q := by
  obtain ⟨t, e⟩ := h
  subst e
  have hd : (q.den : Int) ≠ 0 := by exact_mod_cast q.den_nz
  rw [Int.natCast_mul, Int.mul_ediv_cancel_left _ hd]
  have := den_mul q
  push_cast
  grind
theorem scW_val (ps : Sh) (k : Int) : ((valW (scW ps) k : Int) : Rat) = (lcmS ps : Rat) * valS ps k := by
  have key : ∀ l : Sh, (∀ q ∈ l, q.2.den ∣ lcmS ps) → (((((l.map fun q => (q.1, q.2.num * ((lcmS ps : Int) / (q.2.den : Int)))).lookup k).getD 0 : Int)) : Rat) = (lcmS ps : Rat) * (l.lookup k).getD 0 := by
    intro l
    induction l with
    | nil => intro _; simp
    | cons q r ih =>
      intro h
      obtain ⟨j, p⟩ := q
      rw [List.map_cons, List.lookup_cons, List.lookup_cons]
      by_cases e : k == j
      · simp only [e, Option.getD_some]
        exact scale_one p (h (j, p) List.mem_cons_self)
      · simp only [e]
        exact ih fun q hq => h q (List.mem_cons_of_mem _ hq)
  exact key ps (lcm_from ps 1).2
/-- shares in the same proportions make the same spread -/
theorem spS_same {ps ps' : Sh} (nd : (ps.map (·.1)).Nodup) (nd' : (ps'.map (·.1)).Nodup) (h : ∀ k, valS ps k = valS ps' k) : nrm (scW ps) = nrm (scW ps') := by
  refine nrm_same (c := lcmS ps') (c' := lcmS ps) ?_ ?_ (lcmS_pos ps') (lcmS_pos ps) fun k => ?_
  · simp only [scW, List.map_map]; exact nd
  · simp only [scW, List.map_map]; exact nd'
  · have h1 := scW_val ps k
    have h2 := scW_val ps' k
    have hk := h k
    have e : (((lcmS ps' : Int) * valW (scW ps) k : Int) : Rat) = (((lcmS ps : Int) * valW (scW ps') k : Int) : Rat) := by
      push_cast
      rw [h1, h2, hk]
      grind
    exact_mod_cast e
end PL


set_option Elab.async false
set_option linter.all false
set_option maxRecDepth 100000
/-! ML: the chances of the spread that weights make. -/
namespace PL
open PySem
theorem lookup_fn (f : Int → Int) (k : Int) : ∀ l : List Int, (l.map fun k => (k, f k)).lookup k = if k ∈ l then some (f k) else none
  | [] => rfl
  | a :: r => by
    rw [List.map_cons, List.lookup_cons]
    by_cases e : k = a
    · subst e; simp
    · have e' : (k == a) = false := beq_eq_false_iff_ne.mpr e
      simp only [e', List.mem_cons, e, false_or]
      exact lookup_fn f k r
theorem sum_perm {l l' : List Int} (h : l.Perm l') : l.sum = l'.sum := by
  induction h with
  | nil => rfl
  | cons x _ ih => simp [ih]
  | swap x y l => simp; omega
  | trans _ _ h1 h2 => rw [h1, h2]
theorem sum_mul (g : Int) : ∀ l : List Int, (l.map fun z => g * z).sum = g * l.sum
  | [] => by simp
  | a :: r => by simp only [List.map_cons, List.sum_cons, sum_mul g r, Int.mul_add]
theorem tot_pos_of_nn : ∀ {w : Wt}, (∀ q ∈ w, 0 ≤ q.2) → tot (posW w) = tot w
  | [], _ => rfl
  | q :: r, h => by
    have ih := tot_pos_of_nn (w := r) fun x hx => h x (List.mem_cons_of_mem _ hx)
    have hq := h q List.mem_cons_self
    by_cases hp : 0 < q.2
    · have e : posW (q :: r) = q :: posW r := by simp [posW, hp]
      rw [e]
      simp only [tot, List.map_cons, List.sum_cons] at ih ⊢
      rw [ih]
    · have e : posW (q :: r) = posW r := by simp [posW, hp]
      rw [e, ih]
      simp only [tot, List.map_cons, List.sum_cons]
      omega
theorem tot_nrm {w : Wt} (nd : (w.map (·.1)).Nodup) (nn : ∀ q ∈ w, 0 ≤ q.2) : (gcdL ((posW w).map (·.2)) : Int) * tot (nrm w) = tot w := by
  rw [← tot_pos_of_nn nn]
  unfold tot
  rw [← sum_mul, List.map_map]
  have e : (nrm w).map ((fun z => (gcdL ((posW w).map (·.2)) : Int) * z) ∘ fun q => q.2) = (nrm w).map (fun q => valW w q.1) := List.map_congr_left fun q hq => (mem_nrm nd hq).2.2.1
  rw [e]
  have e2 : (nrm w).map (fun q => valW w q.1) = (sortI ((posW w).map (·.1))).map (valW w) := by
    rw [← nrm_keys, List.map_map]
    rfl
  rw [e2, pos_vals nd]
  exact sum_perm ((sortI_perm _).map _)
theorem val_nrm {w : Wt} (nd : (w.map (·.1)).Nodup) (nn : ∀ q ∈ w, 0 ≤ q.2) (k : Int) : (gcdL ((posW w).map (·.2)) : Int) * valW (nrm w) k = valW w k := by
  have hv0 : 0 ≤ valW w k := by
    unfold valW
    cases e : w.lookup k with
    | none => simp
    | some v => exact nn (k, v) ((lookup_mem_iff nd).mp e)
  by_cases hk : k ∈ (posW w).map (·.1)
  · have hs : k ∈ sortI ((posW w).map (·.1)) := (sortI_perm _).mem_iff.mpr hk
    have : (k, valW (nrm w) k) ∈ nrm w := by
      have e : valW (nrm w) k = valW (posW w) k / (gcdL ((posW w).map (·.2)) : Int) := by
        unfold valW nrm
        rw [lookup_fn (fun k => valW (posW w) k / (gcdL ((posW w).map (·.2)) : Int)), if_pos hs]
        rfl
      rw [e]
      unfold nrm
      exact List.mem_map.mpr ⟨k, hs, rfl⟩
    exact (mem_nrm nd this).2.2.1
  · have hs : ¬ k ∈ sortI ((posW w).map (·.1)) := fun h => hk ((sortI_perm _).mem_iff.mp h)
    have e : valW (nrm w) k = 0 := by
      unfold valW nrm
      rw [lookup_fn (fun k => valW (posW w) k / (gcdL ((posW w).map (·.2)) : Int)), if_neg hs]
      rfl
    have : ¬ 0 < valW w k := fun h => hk ((key_pos nd).mpr h)
    rw [e]
    omega
/-- the chances -/
theorem pr_nrm {w : Wt} (nd : (w.map (·.1)).Nodup) (nn : ∀ q ∈ w, 0 ≤ q.2) (hp : ∃ q ∈ w, 0 < q.2) (k : Int) : pr (nrm w) k = (valW w k : Rat) / (tot w : Rat) := by
  obtain ⟨q0, h1, h2⟩ := hp
  have g0 : 0 < gcdL ((posW w).map (·.2)) := gcdL_pos (List.mem_map_of_mem (mem_posW.mpr ⟨h1, h2⟩)) (by omega)
  have t1 := tot_nrm nd nn
  have v1 := val_nrm nd nn k
  have ne : nrm w ≠ [] := by
    intro e
    have := nrm_keys w
    rw [e] at this
    have hl := congrArg List.length this
    rw [(sortI_perm _).length_eq] at hl
    have h3 := List.length_pos_of_mem (List.mem_map_of_mem (f := Prod.fst) (mem_posW.mpr ⟨h1, h2⟩))
    simp at hl
    simp at h3
    omega
  have tp := tot_pos ne (fun q hq => by
    obtain ⟨_, a, b, c⟩ := mem_nrm nd hq
    have hc : (0 : Int) < (gcdL ((posW w).map (·.2)) : Int) := by omega
    rw [← b] at a
    have : 0 < q.2 := Int.lt_of_mul_lt_mul_left (a := (gcdL ((posW w).map (·.2)) : Int)) (by rw [Int.mul_zero]; exact a) (Int.le_of_lt hc)
    omega)
  unfold pr
  rw [Rat.mkRat_eq_div]
  have et : (((tot (nrm w)).toNat : Nat) : Rat) = ((tot (nrm w) : Int) : Rat) := by
    rw [← Rat.intCast_natCast, Int.toNat_of_nonneg (by omega)]
  rw [et, ← t1, ← v1]
  have hg : ((gcdL ((posW w).map (·.2)) : Nat) : Rat) ≠ 0 := by exact_mod_cast (Nat.ne_of_gt g0)
  have ht : ((tot (nrm w) : Int) : Rat) ≠ 0 := by exact_mod_cast (Int.ne_of_gt tp)
  push_cast
  generalize ((tot (nrm w) : Int) : Rat) = t at *
  generalize ((valW (nrm w) k : Int) : Rat) = v at *
  generalize ((gcdL ((posW w).map (·.2)) : Nat) : Rat) = g at *
  grind
end PL


set_option Elab.async false
set_option linter.all false
set_option maxRecDepth 100000
/-! MM: turned answers. -/
namespace PL
open PySem
/-- the shares of an answer turned -/
def tsh (m : Nat) (i : Int) (k : Rat) : Sh := (List.range m).map fun (j : Nat) => ((j : Int), if (j : Int) = i then k else (1 - k) * mkRat 1 (m - 1))
theorem rep_frac (r : Rat) : Nat.gcd r.num.natAbs r.den = 1 := r.reduced
section
variable {G : Gb}
theorem is_fraction_ok (hi : ∀ z, Kn G "is_integer" [.int z] (.bool true)) (r : Rat) : run G 1 2 K03.b_is_fraction [fr r] = some (.bool true) := by
  have ht : isiD "tuple" (fr r) = some true := rfl
  have hl : biD G.tups .len [fr r] = some (.int 2) := rfl
  have hne : cmpD G.tups .ne (.int 2) (.int 2) = some false := rfl
  obtain ⟨F, f1, f2⟩ := hi r.num
  obtain ⟨F', g1, g2⟩ := hi (r.den : Int)
  rw [f1] at g1
  cases g1
  have el : ev G (.lc [1] (.call "is_integer" (.cons (.v 1) .nil)) (.v 1) (.seq (.v 0)) .non) [.fz (fr r), .un] = some (.list [.bool true, .bool true]) := by
    refine ev_lc (ds := [.int r.num, .int (r.den : Int)]) rfl ?_
    simp [compL, stepL, bindP, wipeE, evC, ev, evs, En.get, f1, f2, g2]
  have eall : biD G.tups .all [.list [.bool true, .bool true]] = some (.bool true) := rfl
  have hge : cmpD G.tups .ge (.int (r.den : Int)) (.int 1) = some true := by
    have := r.den_pos
    simp [cmpD]
    omega
  have hg : biD G.tups .gcd [.int r.num, .int (r.den : Int)] = some (.int 1) := by
    simp [biD, rep_frac]
  have heq : cmpD G.tups .eq (.int 1) (.int 1) = some true := rfl
  refine run_of (ρ := [.fz (fr r), .un]) rfl rfl ?_
  unfold K03.b_is_fraction
  rw [evSs_nx (ρ' := [.fz (fr r), .un]) (by
    have ea : ev G (.bi .all (.cons (.lc [1] (.call "is_integer" (.cons (.v 1) .nil)) (.v 1) (.seq (.v 0)) .non) .nil)) [.fz (fr r), .un] = some (.bool true) := by
      have z : evs G (.cons (.lc [1] (.call "is_integer" (.cons (.v 1) .nil)) (.v 1) (.seq (.v 0)) .non) .nil) [.fz (fr r), .un] = some [.list [.bool true, .bool true]] := by
        unfold evs
        rw [el]
        rfl
      show (evs G _ _).bind _ = _
      rw [z]
      exact eall
    have eo : ev G (.or_ (.not_ (.isi (.v 0) "tuple")) (.or_ (.cmp .ne (.bi .len (.cons (.v 0) .nil)) (.int 2)) (.not_ (.bi .all (.cons (.lc [1] (.call "is_integer" (.cons (.v 1) .nil)) (.v 1) (.seq (.v 0)) .non) .nil))))) [.fz (fr r), .un] = some (.bool false) := by
      have e1 : ev G (.isi (.v 0) "tuple") [.fz (fr r), .un] = some (.bool true) := rfl
      have e2 : ev G (.cmp .ne (.bi .len (.cons (.v 0) .nil)) (.int 2)) [.fz (fr r), .un] = some (.bool false) := by simp [ev, evs, En.get, hl, hne]
      unfold ev
      rw [show ev G (.not_ (.isi (.v 0) "tuple")) [.fz (fr r), .un] = some (.bool false) from by unfold ev; rw [e1]; rfl]
      rw [show ev G (.or_ (.cmp .ne (.bi .len (.cons (.v 0) .nil)) (.int 2)) (.not_ (.bi .all (.cons (.lc [1] (.call "is_integer" (.cons (.v 1) .nil)) (.v 1) (.seq (.v 0)) .non) .nil)))) [.fz (fr r), .un] = some (.bool false) from by
        unfold ev
        rw [e2, show ev G (.not_ (.bi .all (.cons (.lc [1] (.call "is_integer" (.cons (.v 1) .nil)) (.v 1) (.seq (.v 0)) .non) .nil))) [.fz (fr r), .un] = some (.bool false) from by unfold ev; rw [ea]; rfl]
        rfl]
      rfl
    unfold evS
    rw [eo]
    rfl)]
  refine evSs_rt ?_
  simp [evS, ev, evs, En.get, asB, fr0, fr1, hge, hg, heq]
end
end PL


set_option Elab.async false
set_option linter.all false
set_option maxRecDepth 100000
/-! MP: tools: calls by value, steps, dicts with numbers as keys that are put into. -/
namespace PL
open PySem
def ap (G : Gb) (f : Str) (as : List D) : Option D := (G.fns f).bind fun F => F as
theorem Kn.ap {G : Gb} {f : Str} {as : List D} {r : D} (h : Kn G f as r) : ap G f as = some r := by
  obtain ⟨F, h1, h2⟩ := h
  simp [PL.ap, h1, h2]
theorem kn_of {G : Gb} {f : Str} {as : List D} {r : D} (h : ap G f as = some r) : Kn G f as r := by
  unfold PL.ap at h
  cases e : G.fns f with
  | none => rw [e] at h; cases h
  | some F => rw [e] at h; exact ⟨F, e, h⟩
section
variable {G : Gb} {ρ : En}
theorem xcall {f : Str} {as : Exs} : ev G (.call f as) ρ = (evs G as ρ).bind (ap G f) := by
  simp only [ev]
  unfold ap
  cases G.fns f <;> cases evs G as ρ <;> rfl
theorem xv {i : Nat} : ev G (.v i) ρ = ρ.get i := by simp only [ev]
theorem xnon : ev G .non ρ = some .none := by simp only [ev]
theorem xbl {b : Bool} : ev G (.bl b) ρ = some (.bool b) := by simp only [ev]
theorem xint {z : Int} : ev G (.int z) ρ = some (.int z) := by simp only [ev]
theorem xstr {x : Str} : ev G (.str x) ρ = some (.str x) := by simp only [ev]
theorem xg {x : Str} : ev G (.g x) ρ = G.cst x := by simp only [ev]
theorem xop {o : Op2} {a b : Ex} : ev G (.op o a b) ρ = (ev G a ρ).bind fun x => (ev G b ρ).bind fun y => opD o x y := by simp only [ev]
theorem xcmp {c : Cp} {a b : Ex} : ev G (.cmp c a b) ρ = (ev G a ρ).bind fun x => (ev G b ρ).bind fun y => (cmpD G.tups c x y).map PyData.bool := by simp only [ev]
theorem xchain {c1 c2 : Cp} {a b d : Ex} : ev G (.chain c1 c2 a b d) ρ = (ev G a ρ).bind fun x => (ev G b ρ).bind fun y => (cmpD G.tups c1 x y).bind fun r => if r = true then (ev G d ρ).bind fun z => (cmpD G.tups c2 y z).map PyData.bool else some (.bool false) := by simp only [ev]
theorem xisN {a : Ex} : ev G (.isN a) ρ = (ev G a ρ).map fun x => .bool (isNo x) := by simp only [ev]
theorem xnotN {a : Ex} : ev G (.notN a) ρ = (ev G a ρ).map fun x => .bool (!isNo x) := by simp only [ev]
theorem xand {a b : Ex} : ev G (.and_ a b) ρ = (asB (ev G a ρ)).bind fun x => if x = true then (asB (ev G b ρ)).map PyData.bool else some (.bool false) := by simp only [ev]
theorem xor {a b : Ex} : ev G (.or_ a b) ρ = (asB (ev G a ρ)).bind fun x => if x = true then some (.bool true) else (asB (ev G b ρ)).map PyData.bool := by simp only [ev]
theorem xnot {a : Ex} : ev G (.not_ a) ρ = (asB (ev G a ρ)).map fun x => .bool (!x) := by simp only [ev]
theorem xite {c a b : Ex} : ev G (.ite c a b) ρ = (asB (ev G c ρ)).bind fun x => if x = true then ev G a ρ else ev G b ρ := by simp only [ev]
theorem xbi {f : Bi} {as : Exs} : ev G (.bi f as) ρ = (evs G as ρ).bind (biD G.tups f) := by simp only [ev]
theorem xisi {a : Ex} {t : String} : ev G (.isi a t) ρ = (ev G a ρ).bind fun x => (isiD t x).map PyData.bool := by simp only [ev]
theorem xtup {as : Exs} : ev G (.tup as) ρ = (evs G as ρ).map PyData.tuple := by simp only [ev]
theorem xlst {as : Exs} : ev G (.lst as) ρ = (evs G as ρ).map PyData.list := by simp only [ev]
theorem xix {a b : Ex} : ev G (.ix a b) ρ = (ev G a ρ).bind fun x => (ev G b ρ).bind fun y => ixD G.tups x y := by simp only [ev]
theorem xsl {a : Ex} {lo hi : Ox} : ev G (.sl a lo hi) ρ = (ev G a ρ).bind fun x => (evO G lo ρ).bind fun l => (evO G hi ρ).bind fun h => slD x l h := by simp only [ev]
theorem xrev {a : Ex} : ev G (.rev a) ρ = (ev G a ρ).bind revD := by simp only [ev]
theorem xget {a k d : Ex} : ev G (.get a k d) ρ = (ev G a ρ).bind fun x => (ev G k ρ).bind fun y => (ev G d ρ).bind fun z => dget G.tups x y z := by simp only [ev]
theorem xlvals {a : Ex} : ev G (.lvals a) ρ = (ev G a ρ).bind lvalsI := by simp only [ev]
theorem xoget {i : Nat} {k d : Ex} : ev G (.oget i k d) ρ = (ρ.own i).bind fun x => (ev G k ρ).bind fun y => (ev G d ρ).bind fun z => dget G.tups x y z := by simp only [ev]
theorem xolen {i : Nat} : ev G (.olen i) ρ = (ρ.own i).bind olenD := by simp only [ev]
end
theorem b_some {α β : Type} (a : α) (f : α → Option β) : (some a).bind f = f a := rfl

/-! ### putting -/
def putI {α : Type} (l : List (Int × α)) (k : Int) (v : α) : List (Int × α) := if k ∈ l.map (·.1) then l.map (fun p => if p.1 = k then (p.1, v) else p) else l ++ [(k, v)]
theorem putI_map {α β : Type} (f : α → β) (l : List (Int × α)) (k : Int) (v : α) : (putI l k v).map (fun q => (q.1, f q.2)) = putI (l.map fun q => (q.1, f q.2)) k (f v) := by
  have e : (l.map fun q => (q.1, f q.2)).map (·.1) = l.map (·.1) := by rw [List.map_map]; rfl
  unfold putI
  rw [e]
  by_cases h : k ∈ l.map (·.1)
  · rw [if_pos h, if_pos h, List.map_map, List.map_map]
    refine List.map_congr_left fun p _ => ?_
    simp only [Function.comp]
    by_cases hp : p.1 = k
    · simp [hp]
    · simp [hp]
  · rw [if_neg h, if_neg h, List.map_append]
    rfl
theorem putD_ints {T : List D} (l : List (Int × D)) (k : Int) (v : D) : putD T (l.map kd) (.int k) (.num k) v = (putI l k v).map kd := by
  by_cases h : k ∈ l.map (·.1)
  · unfold putD putI
    rw [any_ints, decide_eq_true h, if_pos rfl, if_pos h, List.map_map, List.map_map]
    refine List.map_congr_left fun p _ => ?_
    simp only [Function.comp, kd, kdOf_int, Option.some.injEq, NestedKey.num.injEq]
    by_cases hp : p.1 = k
    · simp [hp]
    · simp [hp]
  · rw [put_new h]
    unfold putI
    rw [if_neg h]
theorem putI_keys {α : Type} (l : List (Int × α)) (k : Int) (v : α) : (putI l k v).map (·.1) = if k ∈ l.map (·.1) then l.map (·.1) else l.map (·.1) ++ [k] := by
  unfold putI
  by_cases h : k ∈ l.map (·.1)
  · rw [if_pos h, if_pos h, List.map_map]
    refine List.map_congr_left fun p _ => ?_
    simp only [Function.comp]
    by_cases hp : p.1 = k <;> simp [hp]
  · rw [if_neg h, if_neg h, List.map_append]
    rfl
theorem putI_nd {α : Type} {l : List (Int × α)} (nd : (l.map (·.1)).Nodup) (k : Int) (v : α) : ((putI l k v).map (·.1)).Nodup := by
  rw [putI_keys]
  by_cases h : k ∈ l.map (·.1)
  · rw [if_pos h]; exact nd
  · rw [if_neg h, List.nodup_append]
    refine ⟨nd, by simp, fun a ha b hb => ?_⟩
    rw [List.mem_singleton] at hb
    subst hb
    exact fun e => h (e ▸ ha)
theorem putI_mem_key {α : Type} {l : List (Int × α)} {k j : Int} {v : α} : j ∈ (putI l k v).map (·.1) ↔ j = k ∨ j ∈ l.map (·.1) := by
  rw [putI_keys]
  by_cases h : k ∈ l.map (·.1)
  · rw [if_pos h]
    exact ⟨.inr, fun e => e.elim (fun e => e ▸ h) id⟩
  · rw [if_neg h, List.mem_append, List.mem_singleton]
    exact or_comm
theorem putI_lookup {α : Type} (k : Int) (v : α) (j : Int) : ∀ l : List (Int × α), (putI l k v).lookup j = if j = k then some v else l.lookup j := by
  have key1 : ∀ l : List (Int × α), (l.map (fun p => if p.1 = k then (p.1, v) else p)).lookup j = if j = k then (if k ∈ l.map (·.1) then some v else none) else l.lookup j := by
    intro l
    induction l with
    | nil => simp
    | cons p r ih =>
      obtain ⟨a, b⟩ := p
      rw [List.map_cons]
      by_cases ha : a = k
      · simp only [ha, if_true, List.lookup_cons]
        by_cases hj : j = k
        · simp [hj]
        · have : (j == k) = false := beq_eq_false_iff_ne.mpr hj
          simp only [this, hj, if_false]
          rw [ih, if_neg hj]
      · simp only [ha, if_false, List.lookup_cons]
        by_cases hj : j = k
        · have : (j == a) = false := beq_eq_false_iff_ne.mpr (by omega)
          simp only [this]
          rw [if_pos hj] at ih ⊢
          have hk : (k ∈ List.map (·.1) ((a, b) :: r)) ↔ k ∈ List.map (·.1) r := by
            rw [List.map_cons, List.mem_cons]
            exact ⟨fun h => h.resolve_left fun e => ha e.symm, .inr⟩
          by_cases z : k ∈ r.map (·.1)
          · rw [if_pos (hk.mpr z)]
            rw [if_pos z] at ih
            exact ih
          · rw [if_neg fun h => z (hk.mp h)]
            rw [if_neg z] at ih
            exact ih
        · by_cases hja : j = a
          · simp [hja, ha]
          · have : (j == a) = false := beq_eq_false_iff_ne.mpr hja
            simp only [this, if_neg hj]
            rw [if_neg hj] at ih
            exact ih
  have key2 : ∀ l : List (Int × α), k ∉ l.map (·.1) → (l ++ [(k, v)]).lookup j = if j = k then some v else l.lookup j := by
    intro l
    induction l with
    | nil =>
      intro _
      simp only [List.nil_append, List.lookup_cons, List.lookup_nil]
      by_cases hj : j = k
      · simp [hj]
      · simp [beq_eq_false_iff_ne.mpr hj, hj]
    | cons p r ih =>
      intro h
      obtain ⟨a, b⟩ := p
      rw [List.map_cons, List.mem_cons, not_or] at h
      rw [List.cons_append, List.lookup_cons, List.lookup_cons, ih h.2]
      by_cases hja : j = a
      · have : j ≠ k := by have := h.1; simp only at this; omega
        simp [hja, this]
        intro e; omega
      · have : (j == a) = false := beq_eq_false_iff_ne.mpr hja
        simp only [this]
  intro l
  unfold putI
  by_cases h : k ∈ l.map (·.1)
  · rw [if_pos h, key1, if_pos h]
  · rw [if_neg h, key2 l h]
theorem oget_ints {T : List D} (l : List (Int × D)) (k : Int) (z : D) : dget T (.dict (l.map kd)) (.int k) z = some ((l.lookup k).getD z) := by
  simp only [dget, getK_ints, Option.map_some]
theorem dput_ints {T : List D} {l : List (Int × D)} (h : l.length ≤ 1000) (k : Int) (d : D) : dputD T (.dict (l.map kd)) (.int k) d = some (.dict ((putI l k d).map kd)) := by
  unfold dputD
  simp only [keyK_ints, Option.bind_some, List.length_map]
  rw [if_pos (by unfold szOk sizeLine; exact decide_eq_true (by omega)), putD_ints]
theorem len_of_nd : ∀ (n : Nat) {l : List Int}, l.Nodup → (∀ k ∈ l, 0 ≤ k ∧ k < n) → l.length ≤ n
  | 0, l, _, hb => by
    cases l with
    | nil => simp
    | cons a r => have := hb a List.mem_cons_self; omega
  | n + 1, l, nd, hb => by
    by_cases h : (n : Int) ∈ l
    · have h1 := len_of_nd n (nd.erase (n : Int)) fun k hk => by
        obtain ⟨h2, h3⟩ := (List.Nodup.mem_erase_iff nd).mp hk
        have := hb k h3
        omega
      rw [List.length_erase_of_mem h] at h1
      omega
    · have h1 := len_of_nd n nd fun k hk => by
        have := hb k hk
        have : k ≠ (n : Int) := fun e => h (e ▸ hk)
        omega
      omega
end PL


set_option Elab.async false
set_option linter.all false
set_option maxRecDepth 100000
set_option exponentiation.threshold 20000
/-! MQ: fractions whose denominators divide a number; sums; shares added up. -/
namespace PL
open PySem
theorem dvd_of_int {r : Rat} {M : Nat} {z : Int} (h : r * (M : Rat) = (z : Rat)) : r.den ∣ M := by
  have e := den_mul r
  have h2 : ((r.num * (M : Int) : Int) : Rat) = ((r.den : Int) * z : Int) := by
    push_cast
    rw [← h, ← e]
    grind
  have h3 : r.num * (M : Int) = (r.den : Int) * z := by exact_mod_cast h2
  have h4 : r.den ∣ r.num.natAbs * M := by
    have := congrArg Int.natAbs h3
    rw [Int.natAbs_mul, Int.natAbs_mul] at this
    simp only [Int.natAbs_natCast] at this
    rw [this]
    exact Nat.dvd_mul_right _ _
  exact Nat.Coprime.dvd_of_dvd_mul_left (Nat.Coprime.symm r.reduced) h4
theorem int_of_dvd {r : Rat} {M : Nat} (h : r.den ∣ M) : ∃ z : Int, r * (M : Rat) = (z : Rat) := by
  obtain ⟨c, rfl⟩ := h
  refine ⟨r.num * c, ?_⟩
  have e := den_mul r
  push_cast
  rw [← e]
  grind
theorem dvd_add {r s : Rat} {M : Nat} (h1 : r.den ∣ M) (h2 : s.den ∣ M) : (r + s).den ∣ M := by
  obtain ⟨a, ha⟩ := int_of_dvd h1
  obtain ⟨b, hb⟩ := int_of_dvd h2
  refine dvd_of_int (z := a + b) ?_
  push_cast
  rw [← ha, ← hb]
  grind
theorem dvd_sub {r s : Rat} {M : Nat} (h1 : r.den ∣ M) (h2 : s.den ∣ M) : (r - s).den ∣ M := by
  obtain ⟨a, ha⟩ := int_of_dvd h1
  obtain ⟨b, hb⟩ := int_of_dvd h2
  refine dvd_of_int (z := a - b) ?_
  push_cast
  rw [← ha, ← hb]
  grind
theorem dvd_mul {r s : Rat} {A B : Nat} (h1 : r.den ∣ A) (h2 : s.den ∣ B) : (r * s).den ∣ A * B := by
  obtain ⟨a, ha⟩ := int_of_dvd h1
  obtain ⟨b, hb⟩ := int_of_dvd h2
  refine dvd_of_int (z := a * b) ?_
  push_cast
  rw [← ha, ← hb]
  grind
theorem dvd_zero (M : Nat) : (0 : Rat).den ∣ M := by show 1 ∣ M; exact Nat.one_dvd M
theorem dvd_one (M : Nat) : (1 : Rat).den ∣ M := by show 1 ∣ M; exact Nat.one_dvd M
theorem mkRat_dvd (a : Int) {b : Nat} (hb : 0 < b) : (mkRat a b).den ∣ b := by
  refine dvd_of_int (z := a) ?_
  rw [Rat.mkRat_eq_div]
  have : (b : Rat) ≠ 0 := by exact_mod_cast (Nat.ne_of_gt hb)
  grind
/-- from 0 to B, by M -/
structure Bd (M B : Nat) (r : Rat) : Prop where
  nn : 0 ≤ r
  le : r ≤ B
  dv : r.den ∣ M
theorem Bd.num {M B : Nat} {r : Rat} (h : Bd M B r) (hM : 0 < M) : r.num.natAbs ≤ B * M := by
  have e := den_mul r
  have hd : (0 : Rat) < (r.den : Rat) := by exact_mod_cast r.den_pos
  have hn : 0 ≤ r.num := Rat.num_nonneg.mpr h.nn
  have h1 : (r.num : Rat) ≤ (B : Rat) * (r.den : Rat) := by
    rw [← e, Rat.mul_comm]
    exact Rat.mul_le_mul_of_nonneg_right h.le (Rat.le_of_lt hd)
  have h2 : r.num ≤ (B : Int) * (r.den : Int) := by exact_mod_cast h1
  have h3 : r.den ≤ M := Nat.le_of_dvd hM h.dv
  have h4 : B * r.den ≤ B * M := Nat.mul_le_mul_left _ h3
  have h5 : ((r.num.natAbs : Nat) : Int) ≤ ((B * r.den : Nat) : Int) := by push_cast; omega
  omega
theorem Bd.sz {M B : Nat} {r : Rat} (h : Bd M B r) (hM : 0 < M) {n m : Nat} (h1 : M < 2 ^ n) (h2 : B < 2 ^ m) : Sz (m + n) r := by
  refine ⟨Nat.lt_of_le_of_lt (h.num hM) ?_, Nat.lt_of_lt_of_le (Nat.lt_of_le_of_lt (Nat.le_of_dvd hM h.dv) h1) (Nat.pow_le_pow_right (by decide) (by omega))⟩
  rw [Nat.pow_add]
  exact Nat.mul_lt_mul'' h2 h1
theorem Bd.sm {M B : Nat} {r : Rat} (h : Bd M B r) (hM : 0 < M) (h1 : M < 2 ^ 64) (h2 : B < 2 ^ 20) : Sm r := (h.sz hM h1 h2).mono (by decide)
theorem Bd.mono {M M' B B' : Nat} {r : Rat} (h : Bd M B r) (h1 : M ∣ M') (h2 : B ≤ B') : Bd M' B' r := ⟨h.nn, Rat.le_trans h.le (by exact_mod_cast h2), Nat.dvd_trans h.dv h1⟩
theorem Bd.mul {A B C E : Nat} {r s : Rat} (h : Bd A C r) (k : Bd B E s) : Bd (A * B) (C * E) (r * s) := by
  refine ⟨Rat.mul_nonneg h.nn k.nn, ?_, dvd_mul h.dv k.dv⟩
  have h1 : r * s ≤ (C : Rat) * s := Rat.mul_le_mul_of_nonneg_right h.le k.nn
  have h2 : (C : Rat) * s ≤ (C : Rat) * (E : Rat) := Rat.mul_le_mul_of_nonneg_left k.le (by exact_mod_cast Nat.zero_le C)
  push_cast
  exact Rat.le_trans h1 h2
theorem bd0 (M B : Nat) : Bd M B 0 := ⟨by decide, by exact_mod_cast Nat.zero_le B, dvd_zero M⟩
theorem bd1 (M : Nat) : Bd M 1 1 := ⟨by decide, by decide, dvd_one M⟩
theorem sm0 : Sm (0 : Rat) := (bd0 1 0).sm (by decide) (by decide) (by decide)
theorem sm1 : Sm (1 : Rat) := (bd1 1).sm (by decide) (by decide) (by decide)
/-! ### sums -/
theorem sum_foldl (l : List Rat) (a : Rat) : l.foldl (· + ·) a = a + l.sum := by
  induction l generalizing a with
  | nil => simp [Rat.add_zero]
  | cons x r ih => rw [List.foldl_cons, ih, List.sum_cons]; grind
theorem sum_nn {l : List Rat} (h : ∀ r ∈ l, 0 ≤ r) : 0 ≤ l.sum := by
  induction l with
  | nil => simp
  | cons x r ih =>
    rw [List.sum_cons]
    have h1 := h x List.mem_cons_self
    have h2 := ih fun y hy => h y (List.mem_cons_of_mem _ hy)
    grind
theorem sum_dvd {M : Nat} {l : List Rat} (h : ∀ r ∈ l, r.den ∣ M) : l.sum.den ∣ M := by
  induction l with
  | nil => simpa using dvd_zero M
  | cons x r ih =>
    rw [List.sum_cons]
    exact dvd_add (h x List.mem_cons_self) (ih fun y hy => h y (List.mem_cons_of_mem _ hy))
theorem take_bd {M B : Nat} {l : List Rat} (h : ∀ r ∈ l, 0 ≤ r ∧ r.den ∣ M) (hs : l.sum ≤ B) (k : Nat) : Bd M B ((l.take k).foldl (· + ·) 0) := by
  have e : l.sum = (l.take k).sum + (l.drop k).sum := by
    conv => lhs; rw [← List.take_append_drop k l]
    rw [List.sum_append]
  have h1 : 0 ≤ (l.take k).sum := sum_nn fun r hr => (h r (List.mem_of_mem_take hr)).1
  have h2 : 0 ≤ (l.drop k).sum := sum_nn fun r hr => (h r (List.mem_of_mem_drop hr)).1
  rw [sum_foldl]
  have e0 : (0 : Rat) + (l.take k).sum = (l.take k).sum := by grind
  rw [e0]
  exact ⟨h1, by grind, sum_dvd fun r hr => (h r (List.mem_of_mem_take hr)).2⟩
theorem sum_mul_r (c : Rat) {α : Type} (f : α → Rat) (l : List α) : (l.map fun x => c * f x).sum = c * (l.map f).sum := by
  induction l with
  | nil => simp
  | cons x r ih => simp only [List.map_cons, List.sum_cons, ih]; grind
theorem sum_add_r {α : Type} (f g : α → Rat) (l : List α) : (l.map fun x => f x + g x).sum = (l.map f).sum + (l.map g).sum := by
  induction l with
  | nil => simp [Rat.add_zero]
  | cons x r ih => simp only [List.map_cons, List.sum_cons, ih]; grind
theorem sum_le_r {α : Type} {f g : α → Rat} {l : List α} (h : ∀ x ∈ l, f x ≤ g x) : (l.map f).sum ≤ (l.map g).sum := by
  induction l with
  | nil => simp
  | cons x r ih =>
    simp only [List.map_cons, List.sum_cons]
    have h1 := h x List.mem_cons_self
    have h2 := ih fun y hy => h y (List.mem_cons_of_mem _ hy)
    grind
theorem sum_swap {α β : Type} (f : α → β → Rat) (l : List α) (m : List β) : (l.map fun x => (m.map fun y => f x y).sum).sum = (m.map fun y => (l.map fun x => f x y).sum).sum := by
  induction l with
  | nil =>
    simp only [List.map_nil, List.sum_nil]
    induction m with
    | nil => simp
    | cons y r ih => simp only [List.map_cons, List.sum_cons]; rw [← ih]; grind
  | cons x r ih =>
    simp only [List.map_cons, List.sum_cons, ih]
    rw [← sum_add_r]
theorem sum_zero_r {α : Type} {f : α → Rat} {l : List α} (h : ∀ x ∈ l, f x = 0) : (l.map f).sum = 0 := by
  induction l with
  | nil => simp
  | cons x r ih =>
    simp only [List.map_cons, List.sum_cons, h x List.mem_cons_self, ih fun y hy => h y (List.mem_cons_of_mem _ hy)]
    grind
/-- the sum over the numbers below n -/
def smR (n : Nat) (f : Int → Rat) : Rat := ((List.range n).map fun j : Nat => f (j : Int)).sum
theorem smR_add (n : Nat) (f g : Int → Rat) : smR n (fun j => f j + g j) = smR n f + smR n g := sum_add_r _ _ _
theorem smR_mul (n : Nat) (c : Rat) (f : Int → Rat) : smR n (fun j => c * f j) = c * smR n f := sum_mul_r c _ _
theorem smR_le {n : Nat} {f g : Int → Rat} (h : ∀ j : Int, 0 ≤ j → j < n → f j ≤ g j) : smR n f ≤ smR n g := sum_le_r fun j hj => h j (by omega) (by have := List.mem_range.mp hj; omega)
theorem smR_congr {n : Nat} {f g : Int → Rat} (h : ∀ j : Int, 0 ≤ j → j < n → f j = g j) : smR n f = smR n g := by
  unfold smR
  congr 1
  exact List.map_congr_left fun j hj => h j (by omega) (by have := List.mem_range.mp hj; omega)
theorem smR_succ (n : Nat) (f : Int → Rat) : smR (n + 1) f = smR n f + f n := by
  unfold smR
  rw [List.range_succ, List.map_append, List.sum_append]
  simp [Rat.add_zero]
theorem smR_swap (n m : Nat) (f : Int → Int → Rat) : smR n (fun i => smR m (fun j => f i j)) = smR m (fun j => smR n (fun i => f i j)) := sum_swap _ _ _
theorem smR_const (n : Nat) (c : Rat) : smR n (fun _ => c) = (n : Rat) * c := by
  induction n with
  | zero => simp [smR]
  | succ n ih => rw [smR_succ, ih]; push_cast; grind
theorem smR_one {n : Nat} (i : Int) (h0 : 0 ≤ i) (h1 : i < n) (a : Rat) : smR n (fun j => if j = i then a else 0) = a := by
  induction n with
  | zero => omega
  | succ n ih =>
    rw [smR_succ]
    by_cases h : i = (n : Int)
    · subst h
      have : smR n (fun j => if j = (n : Int) then a else 0) = 0 := sum_zero_r fun j hj => by
        have := List.mem_range.mp hj
        simp only
        rw [if_neg (by omega)]
      rw [this, if_pos rfl]
      grind
    · rw [ih (by omega), if_neg (fun e => h e.symm)]
      grind
/-- a list's sum over keys, by key -/
theorem smR_keys {n : Nat} (c : Int → Int → Rat → Rat) : ∀ L : List (Int × Rat), (∀ q ∈ L, 0 ≤ q.1 ∧ q.1 < n) → smR n (fun k => (L.map fun q => if q.1 = k then q.2 else 0).sum) = (L.map (·.2)).sum
  | [], _ => by
    have : smR n (fun _ => (0 : Rat)) = 0 := by rw [smR_const]; grind
    simpa using this
  | q :: r, h => by
    have ih := smR_keys c r fun x hx => h x (List.mem_cons_of_mem _ hx)
    simp only [List.map_cons, List.sum_cons]
    rw [smR_add, ih]
    obtain ⟨h1, h2⟩ := h q List.mem_cons_self
    have : smR n (fun k => if q.1 = k then q.2 else 0) = q.2 := by
      rw [← smR_one q.1 h1 h2 q.2]
      exact smR_congr fun j _ _ => by
        by_cases e : q.1 = j
        · rw [if_pos e, if_pos e.symm]
          exact (smR_one q.1 h1 h2 q.2).symm ▸ rfl
        · rw [if_neg e, if_neg fun e' => e e'.symm]
    rw [this]
/-! ### shares added up -/
def totS (ps : Sh) : Rat := (ps.map (·.2)).sum
def addS (acc : Sh) (k : Int) (v : Rat) : Sh := putI acc k (valS acc k + v)
def adds (L : Sh) (acc : Sh) : Sh := L.foldl (fun a q => addS a q.1 q.2) acc
def sumAt (L : Sh) (k : Int) : Rat := (L.map fun q => if q.1 = k then q.2 else 0).sum
theorem valS_addS (acc : Sh) (k : Int) (v : Rat) (j : Int) : valS (addS acc k v) j = valS acc j + if k = j then v else 0 := by
  unfold addS
  by_cases h : j = k
  · subst h
    show ((putI acc j _).lookup j).getD 0 = _
    rw [putI_lookup, if_pos rfl, if_pos rfl]
    rfl
  · show ((putI acc k _).lookup j).getD 0 = _
    rw [putI_lookup, if_neg h, if_neg fun e => h e.symm]
    show valS acc j = _
    grind
theorem valS_cons (k : Int) (v : Rat) (r : Sh) (j : Int) : valS ((k, v) :: r) j = if j = k then v else valS r j := by
  unfold valS
  rw [List.lookup_cons]
  by_cases h : j = k
  · simp [h]
  · have : (j == k) = false := beq_eq_false_iff_ne.mpr h
    simp [this, h]
theorem valS_none {ps : Sh} {k : Int} (h : k ∉ ps.map (·.1)) : valS ps k = 0 := by
  induction ps with
  | nil => rfl
  | cons q r ih =>
    obtain ⟨a, b⟩ := q
    rw [List.map_cons, List.mem_cons, not_or] at h
    rw [valS_cons, if_neg h.1, ih h.2]
theorem totS_put {k : Int} {v : Rat} : ∀ {acc : Sh}, (acc.map (·.1)).Nodup → totS (putI acc k v) = totS acc - valS acc k + v := by
  intro acc nd
  unfold putI
  by_cases h : k ∈ acc.map (·.1)
  · rw [if_pos h]
    induction acc with
    | nil => cases h
    | cons q r ih =>
      obtain ⟨a, b⟩ := q
      rw [List.map_cons, List.nodup_cons] at nd
      rw [valS_cons]
      by_cases e : k = a
      · subst e
        have hr : r.map (fun p => if p.1 = k then (p.1, v) else p) = r := by
          conv => rhs; rw [← List.map_id r]
          refine List.map_congr_left fun p hp => ?_
          have hne : ¬ p.1 = k := fun e => nd.1 (show k ∈ r.map (·.1) from by rw [← e]; exact List.mem_map_of_mem (f := Prod.fst) hp)
          rw [if_neg hne]
          rfl
        simp only [List.map_cons, if_true, hr, totS, List.sum_cons]
        grind
      · have hk : k ∈ r.map (·.1) := by
          rcases List.mem_cons.mp h with z | z
          · exact absurd z e
          · exact z
        have ih := ih nd.2 hk
        simp only [List.map_cons, if_neg (fun z : a = k => e z.symm), if_neg e, totS, List.sum_cons] at ih ⊢
        rw [ih]
        grind
  · rw [if_neg h, valS_none h]
    unfold totS
    rw [List.map_append, List.sum_append]
    simp
    grind
theorem totS_addS {acc : Sh} (nd : (acc.map (·.1)).Nodup) (k : Int) (v : Rat) : totS (addS acc k v) = totS acc + v := by
  unfold addS
  rw [totS_put nd]
  grind
theorem addS_nd {acc : Sh} (nd : (acc.map (·.1)).Nodup) (k : Int) (v : Rat) : ((addS acc k v).map (·.1)).Nodup := putI_nd nd k _
theorem adds_nd : ∀ (L : Sh) {acc : Sh}, (acc.map (·.1)).Nodup → ((adds L acc).map (·.1)).Nodup
  | [], _, h => h
  | q :: r, _, h => adds_nd r (addS_nd h q.1 q.2)
theorem adds_keys {P : Int → Prop} : ∀ (L : Sh) {acc : Sh}, (∀ q ∈ L, P q.1) → (∀ k ∈ acc.map (·.1), P k) → ∀ k ∈ (adds L acc).map (·.1), P k
  | [], _, _, h => h
  | q :: r, acc, hL, h => adds_keys r (fun x hx => hL x (List.mem_cons_of_mem _ hx)) fun k hk => by
    have hk' : k = q.1 ∨ k ∈ acc.map (·.1) := putI_mem_key (v := valS acc q.1 + q.2).mp hk
    rcases hk' with e | e
    · subst e; exact hL q List.mem_cons_self
    · exact h k e
theorem adds_val : ∀ (L : Sh) (acc : Sh) (k : Int), valS (adds L acc) k = valS acc k + sumAt L k
  | [], acc, k => by
    show valS acc k = valS acc k + sumAt [] k
    simp [sumAt, Rat.add_zero]
  | q :: r, acc, k => by
    show valS (adds r (addS acc q.1 q.2)) k = _
    rw [adds_val r, valS_addS]
    simp only [sumAt, List.map_cons, List.sum_cons]
    grind
theorem adds_tot : ∀ (L : Sh) {acc : Sh}, (acc.map (·.1)).Nodup → totS (adds L acc) = totS acc + totS L
  | [], acc, _ => by
    show totS acc = totS acc + totS []
    simp [totS, Rat.add_zero]
  | q :: r, acc, nd => by
    show totS (adds r (addS acc q.1 q.2)) = _
    rw [adds_tot r (addS_nd nd _ _), totS_addS nd]
    simp only [totS, List.map_cons, List.sum_cons]
    grind
theorem valS_mem {ps : Sh} {k : Int} (h : k ∈ ps.map (·.1)) : (k, valS ps k) ∈ ps := by
  induction ps with
  | nil => cases h
  | cons q r ih =>
    obtain ⟨a, b⟩ := q
    rw [valS_cons]
    by_cases e : k = a
    · subst e; simp
    · rw [if_neg e]
      rcases List.mem_cons.mp h with z | z
      · exact absurd z e
      · exact List.mem_cons_of_mem _ (ih z)
theorem valS_of {P : Rat → Prop} {ps : Sh} (h : ∀ q ∈ ps, P q.2) (h0 : P 0) (k : Int) : P (valS ps k) := by
  by_cases hk : k ∈ ps.map (·.1)
  · exact h _ (valS_mem hk)
  · rw [valS_none hk]; exact h0
theorem putI_all {α : Type} {P : α → Prop} {l : List (Int × α)} {k : Int} {v : α} (h : ∀ q ∈ l, P q.2) (hv : P v) : ∀ q ∈ putI l k v, P q.2 := by
  intro q hq
  unfold putI at hq
  split at hq
  · obtain ⟨p, hp, e⟩ := List.mem_map.mp hq
    by_cases hk : p.1 = k
    · rw [if_pos hk] at e; subst e; exact hv
    · rw [if_neg hk] at e; subst e; exact h p hp
  · rcases List.mem_append.mp hq with z | z
    · exact h q z
    · rw [List.mem_singleton] at z; subst z; exact hv
theorem val_le_tot {ps : Sh} (nn : ∀ q ∈ ps, 0 ≤ q.2) (k : Int) : valS ps k ≤ totS ps := by
  induction ps with
  | nil => simp [valS, totS]
  | cons q r ih =>
    obtain ⟨a, b⟩ := q
    have h1 := nn (a, b) List.mem_cons_self
    have h2 := ih fun x hx => nn x (List.mem_cons_of_mem _ hx)
    have h3 : 0 ≤ totS r := sum_nn fun x hx => by
      obtain ⟨y, hy, e⟩ := List.mem_map.mp hx
      exact e ▸ nn y (List.mem_cons_of_mem _ hy)
    rw [valS_cons]
    simp only [totS, List.map_cons, List.sum_cons] at h2 h3 ⊢
    simp only at h1
    split <;> grind
end PL


set_option Elab.async false
set_option linter.all false
set_option maxRecDepth 100000
set_option exponentiation.threshold 20000
/-! MR: spreads by their chances. -/
namespace PL
open PySem
theorem nrm_self {w : Wt} (v : Vs w) : nrm w = w := by
  have nd : (w.map (·.1)).Nodup := v.inc.imp fun h => Int.ne_of_lt h
  have hp : posW w = w := List.filter_eq_self.mpr fun q hq => by have := v.pos q hq; exact decide_eq_true (by omega)
  have hs : sortI (w.map (·.1)) = w.map (·.1) := PySem.W.ksm_same (sortI_perm _) (sortI_sorted _) (v.inc.imp fun h => Int.le_of_lt h)
  unfold nrm
  rw [hp, v.gcd, hs, List.map_map]
  conv => rhs; rw [← List.map_id w]
  refine List.map_congr_left fun q hq => ?_
  obtain ⟨a, b⟩ := q
  simp only [Function.comp, id]
  unfold valW
  rw [(lookup_mem_iff nd).mpr hq]
  simp
theorem Vs.nd {w : Wt} (v : Vs w) : (w.map (·.1)).Nodup := v.inc.imp fun h => Int.ne_of_lt h
theorem Vs.tp {w : Wt} (v : Vs w) : 0 < tot w := tot_pos v.ne v.pos
theorem Vs.tn {w : Wt} (v : Vs w) : 0 < (tot w).toNat := by have := v.tp; omega
theorem Vs.tr {w : Wt} (v : Vs w) : (((tot w).toNat : Nat) : Rat) = ((tot w : Int) : Rat) := by
  rw [← Rat.intCast_natCast, Int.toNat_of_nonneg (by have := v.tp; omega)]
theorem pr_eq {w : Wt} (v : Vs w) (k : Int) : pr w k = (valW w k : Rat) / (tot w : Rat) := by
  unfold pr
  rw [Rat.mkRat_eq_div, v.tr]
theorem Vs.t0 {w : Wt} (v : Vs w) : ((tot w : Int) : Rat) ≠ 0 := by have := v.tp; exact_mod_cast (Int.ne_of_gt this)
theorem Vs.ext {w w' : Wt} (v : Vs w) (v' : Vs w') (h : ∀ k, pr w k = pr w' k) : w = w' := by
  rw [← nrm_self v, ← nrm_self v']
  refine nrm_same v.nd v'.nd (c := (tot w').toNat) (c' := (tot w).toNat) v'.tn v.tn fun k => ?_
  have hk := h k
  rw [pr_eq v, pr_eq v'] at hk
  have h1 := v.t0
  have h2 := v'.t0
  rw [Int.toNat_of_nonneg (Int.le_of_lt v'.tp), Int.toNat_of_nonneg (Int.le_of_lt v.tp)]
  have e : ((tot w' * valW w k : Int) : Rat) = ((tot w * valW w' k : Int) : Rat) := by
    push_cast
    generalize ((tot w : Int) : Rat) = a at *
    generalize ((tot w' : Int) : Rat) = b at *
    generalize ((valW w k : Int) : Rat) = c at *
    generalize ((valW w' k : Int) : Rat) = d at *
    grind
  exact_mod_cast e
/-- a spread over the numbers below 60, whose chances go into M -/
structure Sp (w : Wt) (M : Nat) : Prop where
  vs : Vs w
  ks : ∀ k : Int, k ∈ w.map (·.1) → 0 ≤ k ∧ k < (60 : Nat)
  dv : (tot w).toNat ∣ M
theorem Sp.mono {w : Wt} {M M' : Nat} (s : Sp w M) (h : M ∣ M') : Sp w M' := ⟨s.vs, s.ks, Nat.dvd_trans s.dv h⟩
theorem Sp.len {w : Wt} {M : Nat} (s : Sp w M) : w.length ≤ 60 := by
  have := len_of_nd 60 s.vs.nd s.ks
  simpa using this
theorem valW_none {w : Wt} {k : Int} (h : k ∉ w.map (·.1)) : valW w k = 0 := by
  unfold valW
  cases e : w.lookup k with
  | none => rfl
  | some v =>
    exfalso
    apply h
    clear h
    induction w with
    | nil => cases e
    | cons q r ih =>
      obtain ⟨a, b⟩ := q
      rw [List.lookup_cons] at e
      by_cases z : k = a
      · subst z; simp
      · have : (k == a) = false := beq_eq_false_iff_ne.mpr z
        rw [this] at e
        exact List.mem_cons_of_mem _ (ih e)
theorem pr_none {w : Wt} {k : Int} (h : k ∉ w.map (·.1)) : pr w k = 0 := by
  unfold pr
  rw [valW_none h]
  simp
theorem pr_mem {w : Wt} (v : Vs w) {q : Int × Int} (h : q ∈ w) : mkRat q.2 (tot w).toNat = pr w q.1 := by
  unfold pr valW
  rw [(lookup_mem_iff v.nd).mpr h]
  rfl
theorem div_pos' {a b : Rat} (ha : 0 < a) (hb : 0 < b) : 0 < a / b := by
  rw [Rat.lt_div_iff hb]
  grind
theorem pr_pos {w : Wt} (v : Vs w) {k : Int} (h : k ∈ w.map (·.1)) : 0 < pr w k := by
  obtain ⟨q, hq, e⟩ := List.mem_map.mp h
  subst e
  rw [← pr_mem v hq, Rat.mkRat_eq_div, v.tr]
  have h1 : (0 : Rat) < (tot w : Int) := by have := v.tp; exact_mod_cast this
  have h2 : (0 : Rat) < (q.2 : Int) := by have := v.pos q hq; exact_mod_cast (show (0 : Int) < q.2 by omega)
  exact div_pos' h2 h1
theorem pr_nn {w : Wt} (v : Vs w) (k : Int) : 0 ≤ pr w k := by
  by_cases h : k ∈ w.map (·.1)
  · exact Rat.le_of_lt (pr_pos v h)
  · rw [pr_none h]; decide
theorem pr_mem_iff {w : Wt} (v : Vs w) {k : Int} : k ∈ w.map (·.1) ↔ 0 < pr w k := by
  refine ⟨pr_pos v, fun h => Decidable.byContradiction fun n => ?_⟩
  rw [pr_none n] at h
  exact absurd h (by decide)
/-- the rows' chances -/
def rwS (w : Wt) : Sh := w.map fun q => (q.1, mkRat q.2 (tot w).toNat)
theorem rwS_keys (w : Wt) : (rwS w).map (·.1) = w.map (·.1) := by unfold rwS; rw [List.map_map]; rfl
theorem rwS_val (w : Wt) (k : Int) : valS (rwS w) k = pr w k := by
  have key : ∀ (l : Wt) (t : Nat), valS (l.map fun q => (q.1, mkRat q.2 t)) k = mkRat (valW l k) t := by
    intro l t
    induction l with
    | nil => simp [valS, valW]
    | cons q r ih =>
      obtain ⟨a, b⟩ := q
      rw [List.map_cons, valS_cons, ih]
      unfold valW
      rw [List.lookup_cons]
      by_cases h : k = a
      · simp [h]
      · have : (k == a) = false := beq_eq_false_iff_ne.mpr h
        simp [this, h]
  exact key w _
theorem rwS_tot {w : Wt} (v : Vs w) : totS (rwS w) = 1 := by
  have key : ∀ l : Wt, totS (l.map fun q => (q.1, mkRat q.2 (tot w).toNat)) = (tot l : Rat) / (tot w : Rat) := by
    intro l
    induction l with
    | nil =>
      simp only [List.map_nil, totS, tot, List.sum_nil]
      have := v.t0
      simp
      grind
    | cons q r ih =>
      have := v.t0
      have e1 : totS ((q :: r).map fun q => (q.1, mkRat q.2 (tot w).toNat)) = mkRat q.2 (tot w).toNat + totS (r.map fun q => (q.1, mkRat q.2 (tot w).toNat)) := by simp only [List.map_cons, totS, List.sum_cons]
      have e2 : tot (q :: r) = q.2 + tot r := by simp only [List.map_cons, tot, List.sum_cons]
      rw [e1, e2, ih, Rat.mkRat_eq_div, v.tr]
      push_cast
      grind
  unfold rwS
  rw [key]
  have := v.t0
  grind
theorem rwS_nn {w : Wt} (v : Vs w) : ∀ q ∈ rwS w, 0 ≤ q.2 := by
  intro q hq
  obtain ⟨p, hp, e⟩ := List.mem_map.mp hq
  subst e
  rw [pr_mem v hp]
  exact pr_nn v _
theorem pr_le {w : Wt} (v : Vs w) (k : Int) : pr w k ≤ 1 := by
  rw [← rwS_val, ← rwS_tot v]
  exact val_le_tot (rwS_nn v) k
theorem pr_bd {w : Wt} {M : Nat} (s : Sp w M) (k : Int) : Bd M 1 (pr w k) := ⟨pr_nn s.vs k, by simpa using pr_le s.vs k, Nat.dvd_trans (mkRat_dvd _ s.vs.tn) s.dv⟩
theorem pr_out {w : Wt} {M : Nat} (s : Sp w M) {k : Int} (h : ¬ (0 ≤ k ∧ k < (60 : Nat))) : pr w k = 0 := pr_none fun z => h (s.ks k z)
/-- a list of shares with keys once: its sum at a key -/
theorem sumAt_val {ps : Sh} (nd : (ps.map (·.1)).Nodup) (k : Int) : sumAt ps k = valS ps k := by
  induction ps with
  | nil => simp [sumAt, valS]
  | cons q r ih =>
    obtain ⟨a, b⟩ := q
    rw [List.map_cons, List.nodup_cons] at nd
    rw [valS_cons, ← ih nd.2]
    simp only [sumAt, List.map_cons, List.sum_cons]
    by_cases h : k = a
    · subst h
      have z : sumAt r k = 0 := by rw [ih nd.2]; exact valS_none nd.1
      simp only [sumAt] at z
      rw [z]
      simp
      grind
    · rw [if_neg h, if_neg fun e => h e.symm]
      grind
theorem pr_sum {w : Wt} {M : Nat} (s : Sp w M) : smR 60 (pr w) = 1 := by
  rw [← rwS_tot s.vs]
  unfold totS
  rw [← smR_keys (n := 60) (fun _ _ r => r) (rwS w) (fun q hq => s.ks q.1 (by rw [← rwS_keys]; exact List.mem_map_of_mem hq))]
  refine smR_congr fun j _ _ => ?_
  rw [← rwS_val, ← sumAt_val (by rw [rwS_keys]; exact s.vs.nd)]
  rfl
/-! ### weights make a spread -/
theorem nrm_sp {w : Wt} {M : Nat} (nd : (w.map (·.1)).Nodup) (ks : ∀ k : Int, k ∈ w.map (·.1) → 0 ≤ k ∧ k < (60 : Nat)) (nn : ∀ q ∈ w, 0 ≤ q.2) (tp : 0 < tot w) (dv : (tot w).toNat ∣ M) : Sp (nrm w) M ∧ (∀ k, pr (nrm w) k = (valW w k : Rat) / (tot w : Rat)) ∧ (∃ q ∈ w, 0 < q.2) := by
  have hl : w.length ≤ 60 := by simpa using len_of_nd 60 nd ks
  have hp : ∃ q ∈ w, 0 < q.2 := by
    refine Decidable.byContradiction fun h => ?_
    have : ∀ l : Wt, (∀ q ∈ l, q.2 ≤ 0) → tot l ≤ 0 := by
      intro l
      induction l with
      | nil => intro _; simp [tot]
      | cons q r ih =>
        intro h
        have h1 := h q List.mem_cons_self
        have h2 := ih fun x hx => h x (List.mem_cons_of_mem _ hx)
        simp only [tot, List.map_cons, List.sum_cons] at h2 ⊢
        omega
    have := this w fun q hq => by
      have : ¬ 0 < q.2 := fun z => h ⟨q, hq, z⟩
      omega
    omega
  have v := nrm_vs nd (by omega) hp
  refine ⟨⟨v, fun k hk => ?_, ?_⟩, pr_nrm nd nn hp, hp⟩
  · rw [nrm_keys] at hk
    have := (sortI_perm _).mem_iff.mp hk
    obtain ⟨q, hq, e⟩ := List.mem_map.mp this
    exact ks k (e ▸ List.mem_map_of_mem (mem_posW.mp hq).1)
  · have t := tot_nrm nd nn
    refine Nat.dvd_trans ?_ dv
    refine ⟨gcdL ((posW w).map (·.2)), ?_⟩
    have h1 := v.tp
    have h2 : ((tot w).toNat : Int) = tot w := Int.toNat_of_nonneg (by omega)
    have h3 : ((tot (nrm w)).toNat : Int) = tot (nrm w) := Int.toNat_of_nonneg (by omega)
    have : ((tot w).toNat : Int) = ((((tot (nrm w)).toNat * gcdL ((posW w).map (·.2)) : Nat)) : Int) := by
      push_cast
      rw [h2, h3, ← t, Int.mul_comm]
    exact_mod_cast this
/-- shares that make a spread -/
structure Pv (ps : Sh) (M : Nat) : Prop where
  nd : (ps.map (·.1)).Nodup
  ks : ∀ k : Int, k ∈ ps.map (·.1) → 0 ≤ k ∧ k < (60 : Nat)
  nn : ∀ q ∈ ps, 0 ≤ q.2
  dv : ∀ q ∈ ps, q.2.den ∣ M
  one : totS ps = 1
theorem tot_scW (ps : Sh) : ((tot (scW ps) : Int) : Rat) = (lcmS ps : Rat) * totS ps := by
  have key : ∀ l : Sh, (∀ q ∈ l, q.2.den ∣ lcmS ps) → ((tot (l.map fun q => (q.1, q.2.num * ((lcmS ps : Int) / (q.2.den : Int)))) : Int) : Rat) = (lcmS ps : Rat) * totS l := by
    intro l
    induction l with
    | nil => intro _; simp [tot, totS]
    | cons q r ih =>
      intro h
      have h1 := scale_one q.2 (h q List.mem_cons_self)
      have h2 := ih fun x hx => h x (List.mem_cons_of_mem _ hx)
      simp only [List.map_cons, tot, totS, List.sum_cons] at h2 ⊢
      rw [Rat.intCast_add, h1, h2]
      grind
  exact key ps (lcm_from ps 1).2
theorem scW_keys (ps : Sh) : (scW ps).map (·.1) = ps.map (·.1) := by unfold scW; rw [List.map_map]; rfl
theorem pv_sp {ps : Sh} {M : Nat} (p : Pv ps M) : Sp (nrm (scW ps)) M ∧ (∀ k, pr (nrm (scW ps)) k = valS ps k) ∧ (∃ q ∈ scW ps, 0 < q.2) := by
  have ht := tot_scW ps
  rw [p.one] at ht
  have ht : tot (scW ps) = (lcmS ps : Int) := by
    have : ((tot (scW ps) : Int) : Rat) = ((lcmS ps : Int) : Rat) := by rw [ht]; push_cast; grind
    exact_mod_cast this
  have lp := lcmS_pos ps
  obtain ⟨h1, h2, h3⟩ := nrm_sp (w := scW ps) (M := M) (by rw [scW_keys]; exact p.nd) (by rw [scW_keys]; exact p.ks) (fun q hq => by
    obtain ⟨x, hx, e⟩ := List.mem_map.mp hq
    subst e
    exact Int.mul_nonneg (Rat.num_nonneg.mpr (p.nn x hx)) (Int.ediv_nonneg (by omega) (by omega))) (by rw [ht]; omega) (by
      rw [ht]
      exact lcm_dvd_from ps 1 (Nat.one_dvd M) p.dv)
  refine ⟨h1, fun k => ?_, h3⟩
  rw [h2, scW_val, ht]
  have : ((lcmS ps : Nat) : Rat) ≠ 0 := by exact_mod_cast (Nat.ne_of_gt lp)
  push_cast
  grind
theorem Pv.bd {ps : Sh} {M : Nat} (p : Pv ps M) : ∀ q ∈ ps, Bd M 1 q.2 := fun q hq => by
  refine ⟨p.nn q hq, ?_, p.dv q hq⟩
  have : ∀ l : Sh, (∀ q ∈ l, 0 ≤ q.2) → ∀ q ∈ l, q.2 ≤ totS l := by
    intro l
    induction l with
    | nil => intro _ q h; cases h
    | cons x r ih =>
      intro h q hq
      have h0 := h x List.mem_cons_self
      have h1 : ∀ y ∈ r, 0 ≤ y.2 := fun y hy => h y (List.mem_cons_of_mem _ hy)
      have h2 : 0 ≤ totS r := sum_nn fun y hy => by
        obtain ⟨z, hz, e⟩ := List.mem_map.mp hy
        exact e ▸ h1 z hz
      simp only [totS, List.map_cons, List.sum_cons] at h2 ⊢
      rcases List.mem_cons.mp hq with e | e
      · subst e; grind
      · have := ih h1 q e
        simp only [totS] at this
        grind
  have := this ps p.nn q hq
  rw [p.one] at this
  simpa using this
/-! ### the defs' table -/
theorem fns_at {cst : Str → Option D} {tups : List D} : ∀ {l : List Df} {i : Nat} {f : Df}, (l.map (·.nm)).Nodup → l[i]? = some f → fnsOf cst tups l f.nm = some (run ⟨fnsOf cst tups (l.drop (i + 1)), cst, tups⟩ f.ps.length f.N.length f.body)
  | [], i, f, _, h => by simp at h
  | d :: r, 0, f, _, h => by
    simp only [List.getElem?_cons_zero, Option.some.injEq] at h
    subst h
    simp [fnsOf]
  | d :: r, i + 1, f, nd, h => by
    rw [List.map_cons, List.nodup_cons] at nd
    rw [List.getElem?_cons_succ] at h
    have hne : ¬ f.nm = d.nm := fun e => nd.1 (e ▸ List.mem_map_of_mem (List.mem_of_getElem? h))
    simp only [fnsOf, if_neg hne, List.drop_succ_cons]
    exact fns_at nd.2 h
theorem ap_at {cst : Str → Option D} {tups : List D} {l : List Df} (nd : (l.map (·.nm)).Nodup) (i : Nat) {f : Df} {as : List D} {r : D} (h : l[i]? = some f) (hr : run ⟨fnsOf cst tups (l.drop (i + 1)), cst, tups⟩ f.ps.length f.N.length f.body as = some r) (k : Nat) (hk : k ≤ i) : ap ⟨fnsOf cst tups (l.drop k), cst, tups⟩ f.nm as = some r := by
  have nd' : ((l.drop k).map (·.nm)).Nodup := nd.sublist ((List.drop_sublist k l).map _)
  have h' : (l.drop k)[i - k]? = some f := by rw [List.getElem?_drop, show k + (i - k) = i by omega]; exact h
  have e := fns_at (cst := cst) (tups := tups) nd' h'
  rw [List.drop_drop, show k + (i - k + 1) = i + 1 by omega] at e
  unfold ap
  simp only [e, Option.bind_some]
  exact hr
end PL


set_option Elab.async false
set_option linter.all false
set_option maxRecDepth 100000
set_option exponentiation.threshold 20000
/-! MS: the small defs at the table. -/
namespace PL
open PySem
def Gk (k : Nat) : Gb := ⟨fnsOf (cstOf K03.cns) ([]) (K03.dfs.drop k), cstOf K03.cns, []⟩
theorem dfs_nd : (K03.dfs.map (·.nm)).Nodup := by decide +kernel
/-- a def's place -/
def pl (n : Str) : Nat := (K03.dfs.map (·.nm)).idxOf n
theorem at_ {n : Str} {f : Df} {as : List D} {r : D} (h : K03.dfs[pl n]? = some f) (hn : f.nm = n) (hr : run (Gk (pl n + 1)) f.ps.length f.N.length f.body as = some r) : ∀ k, k ≤ pl n → ap (Gk k) n as = some r := by
  subst hn
  exact fun k hk => ap_at dfs_nd _ h hr k hk
theorem cN (k : Nat) : (Gk k).cst "NOUGHT" = some (fr 0) := rfl
theorem cO (k : Nat) : (Gk k).cst "ONE" = some (fr 1) := rfl
theorem cM (k : Nat) : (Gk k).cst "MOST_VALUES" = some (.int 5000) := rfl
theorem a_int (z : Int) : ∀ k, k ≤ pl "is_integer" → ap (Gk k) "is_integer" [.int z] = some (.bool true) := at_ rfl rfl (is_integer_int z)
theorem a_row (z : Int) : ∀ k, k ≤ pl "is_row" → ap (Gk k) "is_row" [.int z] = some (.bool false) := at_ rfl rfl (is_row_int z)
theorem a_frac (r : Rat) : ∀ k, k ≤ pl "is_fraction" → ap (Gk k) "is_fraction" [fr r] = some (.bool true) := at_ rfl rfl (is_fraction_ok (fun z => kn_of (a_int z _ (by decide +kernel))) r)
theorem a_lp (a : Int) (b : Nat) (h1 : 0 < b) (h2 : b < 2 ^ 9000) : ∀ k, k ≤ pl "least_pair" → ap (Gk k) "least_pair" [.int a, .int (b : Int)] = some (fr (mkRat a b)) := at_ rfl rfl (least_pair_ok _ a b h1 h2)
theorem L_lp (k : Nat) (h : k ≤ pl "least_pair") : LpOk (Gk k) := fun a b h1 h2 => kn_of (a_lp a b h1 h2 k h)
theorem a_plus {r s : Rat} (hr : Sm r) (hs : Sm s) : ∀ k, k ≤ pl "plus" → ap (Gk k) "plus" [fr r, fr s] = some (fr (r + s)) := at_ rfl rfl (plus_ok (L_lp _ (by decide +kernel)) hr hs)
theorem a_minus {r s : Rat} (hr : Sm r) (hs : Sm s) : ∀ k, k ≤ pl "minus" → ap (Gk k) "minus" [fr r, fr s] = some (fr (r - s)) := at_ rfl rfl (minus_ok (L_lp _ (by decide +kernel)) hr hs)
theorem a_times {r s : Rat} (hr : Sm r) (hs : Sm s) : ∀ k, k ≤ pl "times" → ap (Gk k) "times" [fr r, fr s] = some (fr (r * s)) := at_ rfl rfl (times_ok (L_lp _ (by decide +kernel)) hr hs)
theorem a_less {r s : Rat} (hr : Sm r) (hs : Sm s) : ∀ k, k ≤ pl "is_less" → ap (Gk k) "is_less" [fr r, fr s] = some (.bool (decide (r < s))) := at_ rfl rfl (is_less_ok hr hs)
theorem a_sum {M B : Nat} (hM : 0 < M) (hM1 : M < 2 ^ 64) (hB : B < 2 ^ 20) {l : List Rat} (h : ∀ r ∈ l, 0 ≤ r ∧ r.den ∣ M) (hs : l.sum ≤ B) : ∀ k, k ≤ pl "sum_up" → ap (Gk k) "sum_up" [.list (l.map fr)] = some (fr l.sum) := by
  have e : l.sum = l.foldl (· + ·) 0 := by rw [sum_foldl]; grind
  rw [e]
  refine at_ rfl rfl (sum_up_ok (cN _) (fun r s hr hs => kn_of (a_plus hr hs _ (by decide +kernel))) l (fun r hr => ?_) fun k => (take_bd h hs k).sm hM hM1 hB)
  have h1 : r ≤ l.sum := by
    have : ∀ l : List Rat, (∀ r ∈ l, 0 ≤ r) → ∀ r ∈ l, r ≤ l.sum := by
      intro l
      induction l with
      | nil => intro _ r h; cases h
      | cons x t ih =>
        intro h r hr
        have h0 := h x List.mem_cons_self
        have h1 : ∀ y ∈ t, 0 ≤ y := fun y hy => h y (List.mem_cons_of_mem _ hy)
        have h2 := sum_nn h1
        rw [List.sum_cons]
        rcases List.mem_cons.mp hr with e | e
        · subst e; grind
        · have := ih h1 r e
          grind
    exact this l (fun r hr => (h r hr).1) r hr
  exact (⟨(h r hr).1, Rat.le_trans h1 hs, (h r hr).2⟩ : Bd M B r).sm hM hM1 hB
theorem a_val (z : Int) : ∀ k, k ≤ pl "is_value" → ap (Gk k) "is_value" [.int z] = some (.bool true) := at_ rfl rfl (is_value_int (fun z => kn_of (a_int z _ (by decide +kernel))) z)
theorem a_wei (q : Int × Int) (h : 1 ≤ q.2) : ∀ k, k ≤ pl "_is_weighed" → ap (Gk k) "_is_weighed" [prD q] = some (.bool true) := at_ rfl rfl (is_weighed_ok (fun z => kn_of (a_int z _ (by decide +kernel))) (fun z => kn_of (a_val z _ (by decide +kernel))) q h)
theorem a_com (l : List Int) : ∀ k, k ≤ pl "common_of" → ap (Gk k) "common_of" [.list (l.map PyData.int)] = some (.int (gcdL l : Int)) := at_ rfl rfl (common_of_ok l)
theorem a_fault {w : Wt} (v : Vs w) : ∀ k, k ≤ pl "spread_fault" → ap (Gk k) "spread_fault" [spD w] = some .none := at_ rfl rfl (spread_fault_ok (fun z => kn_of (a_int z _ (by decide +kernel))) (fun z => kn_of (a_row z _ (by decide +kernel))) (fun q h => kn_of (a_wei q h _ (by decide +kernel))) (cM _) (fun l => kn_of (a_com l _ (by decide +kernel))) v)
theorem a_check {w : Wt} (v : Vs w) : ∀ k, k ≤ pl "check_spread" → ap (Gk k) "check_spread" [spD w] = some .none := at_ rfl rfl (check_spread_ok (kn_of (a_fault v _ (by decide +kernel))))
theorem a_sow (w : Wt) (nd : (w.map (·.1)).Nodup) (h63 : w.length < 64) (hp : ∃ q ∈ w, 0 < q.2) (hb : ∀ q ∈ w, q.2.natAbs < 2 ^ 250) : ∀ k, k ≤ pl "spread_of_weights" → ap (Gk k) "spread_of_weights" [wD w] = some (spD (nrm w)) := at_ rfl rfl (sow_ok (cM _) (fun l => kn_of (a_com l _ (by decide +kernel))) w nd h63 hp hb)
theorem a_by {ps : Sh} {M : Nat} (hM : 0 < M) (hM1 : M < 2 ^ 64) (p : Pv ps M) : ∀ k, k ≤ pl "spread_by" → ap (Gk k) "spread_by" [sD ps] = some (spD (nrm (scW ps))) := by
  have hb : ∀ q ∈ ps, q.2.num.natAbs < 2 ^ 64 := fun q hq => by
    have := (p.bd q hq).num hM
    omega
  have len : ps.length ≤ 60 := by simpa using len_of_nd 60 p.nd p.ks
  refine at_ rfl rfl (spread_by_ok hM hM1 ps p.dv p.nd (fun q hq => Nat.lt_trans (hb q hq) (by decide)) (kn_of (a_sow (scW ps) (by rw [scW_keys]; exact p.nd) (by simp [scW]; omega) (pv_sp p).2.2 (fun q hq => ?_) _ (by decide +kernel))))
  obtain ⟨x, hx, e⟩ := List.mem_map.mp hq
  subst e
  have hL : lcmS ps ∣ M := lcm_dvd_from ps 1 (Nat.one_dvd M) p.dv
  have hL64 : lcmS ps < 2 ^ 64 := Nat.lt_of_le_of_lt (Nat.le_of_dvd hM hL) hM1
  have h1 : (((lcmS ps : Int) / (x.2.den : Int))).natAbs < 2 ^ 64 := Nat.lt_of_le_of_lt (Int.natAbs_ediv_le_natAbs _ _) (by simpa using hL64)
  exact Nat.lt_trans (natAbs_mul_lt (hb x hx) h1) (by decide)
/-- shares by a def that ends with spread_by -/
theorem a_by' {ps : Sh} {M : Nat} (hM : 0 < M) (hM1 : M < 2 ^ 64) (p : Pv ps M) : ∃ w, Sp w M ∧ (∀ k, pr w k = valS ps k) ∧ ∀ k, k ≤ pl "spread_by" → ap (Gk k) "spread_by" [sD ps] = some (spD w) :=
  ⟨_, (pv_sp p).1, (pv_sp p).2.1, a_by hM hM1 p⟩
theorem a_shares {w : Wt} {M : Nat} (hM : 0 < M) (hM1 : M < 2 ^ 64) (s : Sp w M) : ∀ k, k ≤ pl "shares_of" → ap (Gk k) "shares_of" [spD w] = some (shD w) := at_ rfl rfl (shares_of_ok (L_lp _ (by decide +kernel)) s.vs (Nat.lt_trans (Nat.lt_of_le_of_lt (Nat.le_of_dvd hM s.dv) hM1) (by decide)))
theorem a_chance {w : Wt} {M : Nat} (hM : 0 < M) (hM1 : M < 2 ^ 64) (s : Sp w M) (j : Int) : ∀ k, k ≤ pl "chance_of" → ap (Gk k) "chance_of" [spD w, .int j] = some (fr (pr w j)) := at_ rfl rfl (chance_of_ok (cN _) (fun w v => kn_of (a_check v _ (by decide +kernel))) (fun z => kn_of (a_val z _ (by decide +kernel))) s.vs (kn_of (a_shares hM hM1 s _ (by decide +kernel))) j)
theorem a_isch {r : Rat} (h : 0 ≤ r) : ∀ k, k ≤ pl "is_chance" → ap (Gk k) "is_chance" [fr r] = some (.bool true) := by
  refine at_ rfl rfl ?_
  have h1 : (0 : Int) ≤ r.num := Rat.num_nonneg.mpr h
  refine run_of (ρ := [.fz (fr r)]) rfl rfl ?_
  unfold K03.f_is_chance K03.b_is_chance
  simp [-List.map_map, xcall, xv, xnon, xbl, xint, xstr, xg, xop, xcmp, xchain, xisN, xnotN, xand, xor, xnot, xite, xbi, xisi, xtup, xlst, xix, xsl, xrev, xget, xlvals, xoget, xolen, evs, evO, evC, evS, evSs, evR, bindP, unpD, freeze, wipeE, En.get, En.own, asB, asI, isNo, a_frac r _ (show pl "is_chance" + 1 ≤ pl "is_fraction" by decide +kernel), fr0, cmpD, h1]
theorem sort_acc {T : List D} (f : D → Option (Option (D × D))) : ∀ (l : List Int) (acc : List (D × D)), (∀ z ∈ l, f (.int z) = some (some (.bool false, .bool true))) → (acc = [] ∨ acc = [(.bool false, .bool true)]) → ∃ r, compDK T f (l.map PyData.int) acc = some r ∧ (r = [] ∨ r = [(.bool false, .bool true)])
  | [], acc, _, h => ⟨acc, rfl, h⟩
  | z :: r, acc, hf, h => by
    have h1 := hf z List.mem_cons_self
    have h2 : ∀ y ∈ r, f (.int y) = some (some (.bool false, .bool true)) := fun y hy => hf y (List.mem_cons_of_mem _ hy)
    simp only [List.map_cons, compDK, h1, Option.bind_some, kdOf]
    rcases h with rfl | rfl
    · exact sort_acc f r [(.bool false, .bool true)] h2 (.inr rfl)
    · exact sort_acc f r [(.bool false, .bool true)] h2 (.inr rfl)
theorem a_sort (l : List Int) : ∀ k, k ≤ pl "are_of_one_sort" → ap (Gk k) "are_of_one_sort" [.list (l.map PyData.int)] = some (.bool true) := by
  refine at_ rfl rfl ?_
  have hr := fun z => a_row z _ (show pl "are_of_one_sort" + 1 ≤ pl "is_row" by decide +kernel)
  obtain ⟨r, h1, h2⟩ := sort_acc (T := (Gk (pl "are_of_one_sort" + 1)).tups) (stepDK [1] (.v 1) (fun ρ1 => evC (Gk (pl "are_of_one_sort" + 1)) .non ρ1) (fun ρ1 => ev (Gk (pl "are_of_one_sort" + 1)) (.call "is_row" (.cons (.v 1) .nil)) ρ1) (fun ρ1 => ev (Gk (pl "are_of_one_sort" + 1)) (.bl true) ρ1) [.fz (.list (l.map PyData.int)), .un]) l [] (fun z _ => by
    unfold stepDK
    simp [-List.map_map, xcall, xv, xnon, xbl, xint, xstr, xg, xop, xcmp, xchain, xisN, xnotN, xand, xor, xnot, xite, xbi, xisi, xtup, xlst, xix, xsl, xrev, xget, xlvals, xoget, xolen, evs, evO, evC, evS, evSs, evR, bindP, unpD, freeze, wipeE, En.get, En.own, asB, asI, isNo, hr z]) (.inl rfl)
  refine run_of (ρ := [.fz (.list (l.map PyData.int)), .un]) rfl rfl ?_
  refine evSs_rt ?_
  have e := ev_dc (own := [1]) (k := .call "is_row" (.cons (.v 1) .nil)) (v := .bl true) (p := .v 1) (cond := .non) (G := Gk (pl "are_of_one_sort" + 1)) (it := .seq (.v 0)) (ρ := [.fz (.list (l.map PyData.int)), .un]) (ds := l.map PyData.int) (by simp [-List.map_map, xcall, xv, xnon, xbl, xint, xstr, xg, xop, xcmp, xchain, xisN, xnotN, xand, xor, xnot, xite, xbi, xisi, xtup, xlst, xix, xsl, xrev, xget, xlvals, xoget, xolen, evs, evO, evC, evS, evSs, evR, bindP, unpD, freeze, wipeE, En.get, En.own, asB, asI, isNo, evI, seqD]) h1
  rcases h2 with rfl | rfl
  · simp [-List.map_map, xcall, xv, xnon, xbl, xint, xstr, xg, xop, xcmp, xchain, xisN, xnotN, xand, xor, xnot, xite, xbi, xisi, xtup, xlst, xix, xsl, xrev, xget, xlvals, xoget, xolen, evs, evO, evC, evS, evSs, evR, bindP, unpD, freeze, wipeE, En.get, En.own, asB, asI, isNo, e, biD, noO, cmpD, ltD]
  · simp [-List.map_map, xcall, xv, xnon, xbl, xint, xstr, xg, xop, xcmp, xchain, xisN, xnotN, xand, xor, xnot, xite, xbi, xisi, xtup, xlst, xix, xsl, xrev, xget, xlvals, xoget, xolen, evs, evO, evC, evS, evSs, evR, bindP, unpD, freeze, wipeE, En.get, En.own, asB, asI, isNo, e, biD, noO, cmpD, ltD]
end PL


set_option Elab.async false
set_option linter.all false
set_option maxRecDepth 100000
set_option exponentiation.threshold 20000
/-! MT: mixed, turned. -/
namespace PL
open PySem
theorem all_true : ∀ {l : List D}, (∀ d ∈ l, d = .bool true) → ∃ bs, allBools l = some bs ∧ bs.all id = true
  | [], _ => ⟨[], rfl, rfl⟩
  | d :: r, h => by
    obtain ⟨bs, h1, h2⟩ := all_true (l := r) fun x hx => h x (List.mem_cons_of_mem _ hx)
    have e := h d List.mem_cons_self
    subst e
    exact ⟨true :: bs, by simp [allBools, h1], by simpa using h2⟩
theorem bi_all {T : List D} {l : List D} (h : ∀ d ∈ l, d = .bool true) : biD T .all [.list l] = some (.bool true) := by
  obtain ⟨bs, h1, h2⟩ := all_true h
  simp only [biD, h1, Option.map_some, h2]
/-- all of a comprehension's items hold -/
theorem ev_all {G : Gb} {own : List Nat} {e : Ex} {p : Pat} {it : Iu} {ρ : En} {β : Type} {g : β → D} {bs : List β} (h : evI G it ρ = some (bs.map g)) (k : ∀ b ∈ bs, stepL own p (fun ρ1 => evC G .non ρ1) (fun ρ1 => ev G e ρ1) ρ (g b) = some (some (.bool true))) : ev G (.bi .all (.cons (.lc own e p it .non) .nil)) ρ = some (.bool true) := by
  have h2 := ev_lc (e := e) h (compL_all (k := fun _ => PyData.bool true) bs k)
  rw [xbi, evs, h2]
  simp only [evs, Option.bind_some, Option.map_some]
  exact bi_all fun d hd => by
    obtain ⟨_, _, e⟩ := List.mem_map.mp hd
    exact e.symm
theorem a_pairs (l : List (D × D)) : ∀ k, k ≤ pl "are_pairs" → ap (Gk k) "are_pairs" [.tuple (l.map fun q => .tuple [q.1, q.2])] = some (.bool true) := by
  refine at_ rfl rfl ?_
  refine run_of (ρ := [.fz (.tuple (l.map fun q => .tuple [q.1, q.2])), .un]) rfl rfl ?_
  refine evSs_rt ?_
  have h1 : isiD "tuple" (.tuple (l.map fun q : D × D => PyData.tuple [q.1, q.2])) = some true := rfl
  have e := ev_all (G := Gk (pl "are_pairs" + 1)) (own := [1]) (e := .and_ (.isi (.v 1) "tuple") (.cmp .eq (.bi .len (.cons (.v 1) .nil)) (.int 2))) (p := .v 1) (it := .seq (.v 0)) (ρ := [.fz (.tuple (l.map fun q => .tuple [q.1, q.2])), .un]) (g := fun q : D × D => .tuple [q.1, q.2]) (bs := l) (by simp [-List.map_map, xcall, xv, xnon, xbl, xint, xstr, xg, xop, xcmp, xchain, xisN, xnotN, xand, xor, xnot, xite, xbi, xisi, xtup, xlst, xix, xsl, xrev, xget, xlvals, xoget, xolen, evs, evO, evC, evS, evSs, evR, bindP, unpD, freeze, wipeE, En.get, En.own, asB, asI, isNo, evI, seqD]) fun b _ => by
    have h2 : isiD "tuple" (.tuple [b.1, b.2]) = some true := rfl
    have h3 : biD (Gk (pl "are_pairs" + 1)).tups .len [.tuple [b.1, b.2]] = some (.int 2) := rfl
    have h4 : cmpD (Gk (pl "are_pairs" + 1)).tups .eq (.int 2) (.int 2) = some true := rfl
    unfold stepL
    simp [-List.map_map, xcall, xv, xnon, xbl, xint, xstr, xg, xop, xcmp, xchain, xisN, xnotN, xand, xor, xnot, xite, xbi, xisi, xtup, xlst, xix, xsl, xrev, xget, xlvals, xoget, xolen, evs, evO, evC, evS, evSs, evR, bindP, unpD, freeze, wipeE, En.get, En.own, asB, asI, isNo, h2, h3, h4]
  simp [-List.map_map, xcall, xv, xnon, xbl, xint, xstr, xg, xop, xcmp, xchain, xisN, xnotN, xand, xor, xnot, xite, xbi, xisi, xtup, xlst, xix, xsl, xrev, xget, xlvals, xoget, xolen, evs, evO, evC, evS, evSs, evR, bindP, unpD, freeze, wipeE, En.get, En.own, asB, asI, isNo, h1, e]
/-- a list's items, each with a share -/
def mixD (ps : List (Rat × Wt)) : D := .tuple (ps.map fun q => .tuple [fr q.1, spD q.2])
def mixL (ps : List (Rat × Wt)) : Sh := ps.flatMap fun q => (rwS q.2).map fun x => (x.1, q.1 * x.2)
theorem adds_append (L L' : Sh) (acc : Sh) : adds (L ++ L') acc = adds L' (adds L acc) := List.foldl_append
theorem mixL_val (ps : List (Rat × Wt)) (hv : ∀ q ∈ ps, Vs q.2) (k : Int) : sumAt (mixL ps) k = (ps.map fun q => q.1 * pr q.2 k).sum := by
  induction ps with
  | nil => simp [mixL, sumAt]
  | cons q r ih =>
    have ih := ih fun x hx => hv x (List.mem_cons_of_mem _ hx)
    have e : sumAt (mixL (q :: r)) k = sumAt ((rwS q.2).map fun x => (x.1, q.1 * x.2)) k + sumAt (mixL r) k := by
      simp only [mixL, List.flatMap_cons, sumAt, List.map_append, List.sum_append]
    rw [e, ih, List.map_cons, List.sum_cons]
    congr 1
    rw [← rwS_val, ← sumAt_val (by rw [rwS_keys]; exact (hv q List.mem_cons_self).nd)]
    unfold sumAt
    rw [List.map_map, ← sum_mul_r]
    congr 1
    refine List.map_congr_left fun x _ => ?_
    simp only [Function.comp]
    split
    · rfl
    · grind
theorem mixL_tot (ps : List (Rat × Wt)) (hv : ∀ q ∈ ps, Vs q.2) : totS (mixL ps) = (ps.map (·.1)).sum := by
  induction ps with
  | nil => simp [mixL, totS]
  | cons q r ih =>
    have ih := ih fun x hx => hv x (List.mem_cons_of_mem _ hx)
    have e : totS (mixL (q :: r)) = totS ((rwS q.2).map fun x => (x.1, q.1 * x.2)) + totS (mixL r) := by
      simp only [mixL, List.flatMap_cons, totS, List.map_append, List.sum_append]
    rw [e, ih, List.map_cons, List.sum_cons]
    congr 1
    have h := rwS_tot (hv q List.mem_cons_self)
    unfold totS at h ⊢
    rw [List.map_map]
    have : (rwS q.2).map ((fun x => x.2) ∘ fun x : Int × Rat => (x.1, q.1 * x.2)) = (rwS q.2).map fun x => q.1 * x.2 := rfl
    rw [this, sum_mul_r, h]
    grind
/-- what has been added up so far: shares from 0 on that go into M, 1 together with those to come -/
structure Ac (acc : Sh) (M : Nat) (c : Rat) : Prop where
  nd : (acc.map (·.1)).Nodup
  ks : ∀ k : Int, k ∈ acc.map (·.1) → 0 ≤ k ∧ k < (60 : Nat)
  nn : ∀ q ∈ acc, 0 ≤ q.2
  dv : ∀ q ∈ acc, q.2.den ∣ M
  le : totS acc + c ≤ 1
theorem Ac.bd {acc : Sh} {M : Nat} {c : Rat} (a : Ac acc M c) (hc : 0 ≤ c) (k : Int) : Bd M 1 (valS acc k) := by
  refine ⟨valS_of (P := fun r => 0 ≤ r) a.nn (by decide) k, ?_, valS_of (P := fun r => r.den ∣ M) a.dv (dvd_zero M) k⟩
  have h1 := val_le_tot a.nn k
  have h2 := a.le
  have h3 : valS acc k ≤ 1 := by grind
  simpa using h3
theorem Ac.put {acc : Sh} {M : Nat} {c v : Rat} {k : Int} (a : Ac acc M (v + c)) (h0 : 0 ≤ v) (hv : v.den ∣ M) (hk : 0 ≤ k ∧ k < (60 : Nat)) : Ac (addS acc k v) M c := by
  refine ⟨addS_nd a.nd k v, fun j hj => ?_, putI_all (P := fun r : Rat => 0 ≤ r) a.nn ?_, putI_all (P := fun r : Rat => r.den ∣ M) a.dv ?_, ?_⟩
  · have hj' : j = k ∨ j ∈ acc.map (·.1) := putI_mem_key (v := valS acc k + v).mp hj
    rcases hj' with e | e
    · subst e; exact hk
    · exact a.ks j e
  · have := valS_of (P := fun r => 0 ≤ r) a.nn (by decide) k
    grind
  · exact dvd_add (valS_of (P := fun r => r.den ∣ M) a.dv (dvd_zero M) k) hv
  · have := a.le
    rw [totS_addS a.nd]
    grind
theorem Ac.len {acc : Sh} {M : Nat} {c : Rat} (a : Ac acc M c) : acc.length ≤ 60 := by simpa using len_of_nd 60 a.nd a.ks
theorem sk_look (ps : Sh) (k : Int) : ((sk ps).lookup k).getD (fr 0) = fr (valS ps k) := by
  unfold valS
  induction ps with
  | nil => rfl
  | cons q r ih =>
    obtain ⟨a, b⟩ := q
    show ((((a, fr b) :: sk r) : List (Int × D)).lookup k).getD (fr 0) = _
    rw [List.lookup_cons, List.lookup_cons]
    by_cases h : k = a
    · simp [h]
    · have : (k == a) = false := beq_eq_false_iff_ne.mpr h
      rw [this]
      exact ih
theorem sk_put (ps : Sh) (k : Int) (v : Rat) : (putI (sk ps) k (fr v)).map kd = (sk (putI ps k v)).map kd := by
  unfold sk
  rw [putI_map]
/-- the inner loop of mixed -/
theorem mix_in {M : Nat} (hM : 0 < M) (hM1 : M < 2 ^ 64) {s : Rat} (s0 : 0 ≤ s) (ss : Sm s) (x0 x3 : Sl) (c : Rat) (hc : 0 ≤ c) (bs : Sh) (acc : Sh) (sl4 sl5 : Sl)
    (hb : ∀ q ∈ bs, (0 ≤ q.1 ∧ q.1 < (60 : Nat)) ∧ 0 ≤ q.2 ∧ Sm q.2 ∧ (s * q.2).den ∣ M) (a : Ac acc M (totS (bs.map fun q => (q.1, s * q.2)) + c)) :
    ∃ t4 t5, forL (fun d ρ1 => (bindP (.cons (.v 4) (.cons (.v 5) .nil)) d ρ1).bind fun ρ2 => evSs (Gk (pl "mixed" + 1)) (.cons (.put 1 (.v 4) (.call "plus" (.cons (.oget 1 (.v 4) (.g "NOUGHT")) (.cons (.call "times" (.cons (.v 2) (.cons (.v 5) .nil))) .nil)))) .nil) ρ2)
      (bs.map fun q => .tuple [.int q.1, fr q.2]) [x0, .ow (sD acc), .fz (fr s), x3, sl4, sl5, .un, .un] = some (.nx [x0, .ow (sD (adds (bs.map fun q => (q.1, s * q.2)) acc)), .fz (fr s), x3, t4, t5, .un, .un]) ∧ Ac (adds (bs.map fun q => (q.1, s * q.2)) acc) M c := by
  induction bs generalizing acc sl4 sl5 with
  | nil =>
    refine ⟨sl4, sl5, rfl, a.nd, a.ks, a.nn, a.dv, ?_⟩
    have := a.le
    simp only [List.map_nil, totS, List.sum_nil, adds, List.foldl_nil] at this ⊢
    grind
  | cons q r ih =>
    obtain ⟨hk, q0, qs, qd⟩ := hb q List.mem_cons_self
    have hr : ∀ x ∈ r, (0 ≤ x.1 ∧ x.1 < (60 : Nat)) ∧ 0 ≤ x.2 ∧ Sm x.2 ∧ (s * x.2).den ∣ M := fun x hx => hb x (List.mem_cons_of_mem _ hx)
    have nnr : 0 ≤ totS (r.map fun q => (q.1, s * q.2)) := sum_nn fun y hy => by
      obtain ⟨z, hz, e⟩ := List.mem_map.mp hy
      obtain ⟨u, hu, e2⟩ := List.mem_map.mp hz
      subst e2
      subst e
      exact Rat.mul_nonneg s0 (hr u hu).2.1
    have et : totS ((q :: r).map fun q => (q.1, s * q.2)) = s * q.2 + totS (r.map fun q => (q.1, s * q.2)) := by simp only [totS, List.map_cons, List.sum_cons]
    have sq0 : 0 ≤ s * q.2 := Rat.mul_nonneg s0 q0
    have a' : Ac acc M (s * q.2 + (totS (r.map fun q => (q.1, s * q.2)) + c)) := by
      rw [et] at a
      have e : s * q.2 + (totS (r.map fun q => (q.1, s * q.2)) + c) = s * q.2 + totS (r.map fun q => (q.1, s * q.2)) + c := by grind
      rw [e]
      exact a
    have a2 := a'.put sq0 qd hk
    have bd := a'.bd (by grind) q.1
    have sv : Sm (valS acc q.1) := bd.sm hM hM1 (by decide)
    have sb : Bd M 1 (s * q.2) := ⟨sq0, by
      have h1 := a'.le
      have h2 : 0 ≤ totS acc := sum_nn fun y hy => by
        obtain ⟨z, hz, e⟩ := List.mem_map.mp hy
        exact e ▸ a'.nn z hz
      have : s * q.2 ≤ 1 := by grind
      simpa using this, qd⟩
    have sm : Sm (s * q.2) := sb.sm hM hM1 (by decide)
    have e1 := a_times ss qs _ (show pl "mixed" + 1 ≤ pl "times" by decide +kernel)
    have e2 := a_plus sv sm _ (show pl "mixed" + 1 ≤ pl "plus" by decide +kernel)
    have e3 : dget (Gk (pl "mixed" + 1)).tups (sD acc) (.int q.1) (fr 0) = some (fr (valS acc q.1)) := by
      unfold sD
      rw [oget_ints, sk_look]
    have e4 : dputD (Gk (pl "mixed" + 1)).tups (sD acc) (.int q.1) (fr (valS acc q.1 + s * q.2)) = some (sD (addS acc q.1 (s * q.2))) := by
      unfold sD
      rw [dput_ints (by have := a'.len; simp [sk]; omega), sk_put]
      rfl
    have cn := cN (pl "mixed" + 1)
    rw [List.map_cons, forL_cons]
    have step : (bindP (.cons (.v 4) (.cons (.v 5) .nil)) (.tuple [.int q.1, fr q.2]) [x0, .ow (sD acc), .fz (fr s), x3, sl4, sl5, .un, .un]).bind (fun ρ2 => evSs (Gk (pl "mixed" + 1)) (.cons (.put 1 (.v 4) (.call "plus" (.cons (.oget 1 (.v 4) (.g "NOUGHT")) (.cons (.call "times" (.cons (.v 2) (.cons (.v 5) .nil))) .nil)))) .nil) ρ2) = some (.nx [x0, .ow (sD (addS acc q.1 (s * q.2))), .fz (fr s), x3, .fz (.int q.1), .fz (fr q.2), .un, .un]) := by
      simp [-List.map_map, xcall, xv, xnon, xbl, xint, xstr, xg, xop, xcmp, xchain, xisN, xnotN, xand, xor, xnot, xite, xbi, xisi, xtup, xlst, xix, xsl, xrev, xget, xlvals, xoget, xolen, evs, evO, evC, evS, evSs, evR, bindP, unpD, freeze, wipeE, En.get, En.own, asB, asI, isNo, e1, e2, e3, e4, cn]
    rw [step, Option.bind_some]
    obtain ⟨t4, t5, h1, h2⟩ := ih (addS acc q.1 (s * q.2)) (.fz (.int q.1)) (.fz (fr q.2)) hr a2
    exact ⟨t4, t5, h1, h2⟩
end PL


set_option Elab.async false
set_option linter.all false
set_option maxRecDepth 100000
set_option exponentiation.threshold 20000
/-! MU: mixed, whole; turned. -/
namespace PL
open PySem
theorem row0 {T : List D} {w : Wt} (v : Vs w) : ∃ z : Int, ixD T (rowsD w) (.int 0) = some (prD (z, valW w z)) := by
  obtain ⟨q, r, e⟩ := List.exists_cons_of_ne_nil v.ne
  refine ⟨q.1, ?_⟩
  have h : w[0]? = some q := by rw [e]; rfl
  have hq : (q.1, valW w q.1) = q := by
    unfold valW
    rw [(lookup_mem_iff v.nd).mpr (show (q.1, q.2) ∈ w from List.mem_of_getElem? h)]
    rfl
  rw [hq]
  exact row_at (i := 0) h
theorem cmp_ne_same {T : List D} {d : D} (h : SeqAt.shaped d = true) : cmpD T .ne d d = some false := by
  have h1 : PyData.eqv d d = true := SeqAt.eqv_refl d (SeqAt.canLay_of_shaped h)
  simp [cmpD, h, h1]
theorem cmp_eq_same {T : List D} {d : D} (h : SeqAt.shaped d = true) : cmpD T .eq d d = some true := by
  have h1 : PyData.eqv d d = true := SeqAt.eqv_refl d (SeqAt.canLay_of_shaped h)
  simp [cmpD, h, h1]
theorem fr_shaped (r : Rat) : SeqAt.shaped (fr r) = true := rfl
theorem ix_spD {T : List D} (w : Wt) : ixD T (spD w) (.int 1) = some (rowsD w) := rfl
theorem ix_spD0 {T : List D} (w : Wt) : ixD T (spD w) (.int 0) = some (.int (tot w)) := rfl
theorem shD_items (w : Wt) : itemsI (shD w) = some ((rwS w).map fun q => .tuple [.int q.1, fr q.2]) := by
  have k := noO_ints (shK w)
  simp only [itemsI, shD, k, if_true]
  congr 1
  simp only [shK, rwS, List.map_map]
  rfl
theorem mix_out {A B : Nat} (hA : 0 < A) (hB : 0 < B) (hAB : A * B < 2 ^ 64) (x0 : Sl) (bs : List (Rat × Wt)) (acc : Sh) (sl2 sl3 sl4 sl5 : Sl)
    (hb : ∀ q ∈ bs, 0 ≤ q.1 ∧ Sm q.1 ∧ q.1.den ∣ A ∧ Sp q.2 B) (a : Ac acc (A * B) ((bs.map (·.1)).sum)) :
    ∃ t2 t3 t4 t5, forL (fun d ρ1 => (bindP (.cons (.v 2) (.cons (.v 3) .nil)) d ρ1).bind fun ρ2 => evSs (Gk (pl "mixed" + 1)) (.cons (.for_ (.cons (.v 4) (.cons (.v 5) .nil)) (.items (.call "shares_of" (.cons (.v 3) .nil))) (.cons (.put 1 (.v 4) (.call "plus" (.cons (.oget 1 (.v 4) (.g "NOUGHT")) (.cons (.call "times" (.cons (.v 2) (.cons (.v 5) .nil))) .nil)))) .nil)) .nil) ρ2)
      (bs.map fun q => .tuple [fr q.1, spD q.2]) [x0, .ow (sD acc), sl2, sl3, sl4, sl5, .un, .un] = some (.nx [x0, .ow (sD (adds (mixL bs) acc)), t2, t3, t4, t5, .un, .un]) ∧ Ac (adds (mixL bs) acc) (A * B) 0 := by
  have hB64 : B < 2 ^ 64 := Nat.lt_of_le_of_lt (Nat.le_mul_of_pos_left B hA) hAB
  induction bs generalizing acc sl2 sl3 sl4 sl5 with
  | nil => exact ⟨sl2, sl3, sl4, sl5, rfl, a.nd, a.ks, a.nn, a.dv, a.le⟩
  | cons q r ih =>
    obtain ⟨q0, qs, qd, sp⟩ := hb q List.mem_cons_self
    have hr : ∀ x ∈ r, 0 ≤ x.1 ∧ Sm x.1 ∧ x.1.den ∣ A ∧ Sp x.2 B := fun x hx => hb x (List.mem_cons_of_mem _ hx)
    have nnr : 0 ≤ (r.map (·.1)).sum := sum_nn fun y hy => by
      obtain ⟨z, hz, e⟩ := List.mem_map.mp hy
      exact e ▸ (hr z hz).1
    have et : totS ((rwS q.2).map fun x => (x.1, q.1 * x.2)) = q.1 := by
      have h := rwS_tot sp.vs
      unfold totS at h ⊢
      rw [List.map_map]
      have : (rwS q.2).map ((fun x => x.2) ∘ fun x : Int × Rat => (x.1, q.1 * x.2)) = (rwS q.2).map fun x => q.1 * x.2 := rfl
      rw [this, sum_mul_r, h]
      grind
    have a' : Ac acc (A * B) (totS ((rwS q.2).map fun x => (x.1, q.1 * x.2)) + (r.map (·.1)).sum) := by
      rw [et]
      rw [List.map_cons, List.sum_cons] at a
      exact a
    obtain ⟨t4, t5, h1, h2⟩ := mix_in (Nat.mul_pos hA hB) hAB q0 qs x0 (.fz (spD q.2)) _ nnr (rwS q.2) acc sl4 sl5 (fun x hx => by
      have hk := sp.ks x.1 (by rw [← rwS_keys]; exact List.mem_map_of_mem hx)
      obtain ⟨y, hy, e⟩ := List.mem_map.mp hx
      subst e
      simp only [pr_mem sp.vs hy] at hk ⊢
      have b := pr_bd sp y.1
      exact ⟨hk, b.nn, b.sm hB hB64 (by decide), dvd_mul qd b.dv⟩) a'
    obtain ⟨t2, t3, u4, u5, h3, h4⟩ := ih (adds ((rwS q.2).map fun x => (x.1, q.1 * x.2)) acc) (.fz (fr q.1)) (.fz (spD q.2)) t4 t5 hr h2
    refine ⟨t2, t3, u4, u5, ?_, ?_⟩
    · rw [List.map_cons, forL_cons]
      have e1 := a_shares hB hB64 sp _ (show pl "mixed" + 1 ≤ pl "shares_of" by decide +kernel)
      have it : evI (Gk (pl "mixed" + 1)) (.items (.call "shares_of" (.cons (.v 3) .nil))) [x0, .ow (sD acc), .fz (fr q.1), .fz (spD q.2), sl4, sl5, .un, .un] = some ((rwS q.2).map fun q => .tuple [.int q.1, fr q.2]) := by
        unfold evI
        simp [-List.map_map, xcall, xv, xnon, xbl, xint, xstr, xg, xop, xcmp, xchain, xisN, xnotN, xand, xor, xnot, xite, xbi, xisi, xtup, xlst, xix, xsl, xrev, xget, xlvals, xoget, xolen, evs, evO, evC, evS, evSs, evR, bindP, unpD, freeze, wipeE, En.get, En.own, asB, asI, isNo, e1, shD_items]
      have e2 := evS_for it h1
      have step : (bindP (.cons (.v 2) (.cons (.v 3) .nil)) (.tuple [fr q.1, spD q.2]) [x0, .ow (sD acc), sl2, sl3, sl4, sl5, .un, .un]).bind (fun ρ2 => evSs (Gk (pl "mixed" + 1)) (.cons (.for_ (.cons (.v 4) (.cons (.v 5) .nil)) (.items (.call "shares_of" (.cons (.v 3) .nil))) (.cons (.put 1 (.v 4) (.call "plus" (.cons (.oget 1 (.v 4) (.g "NOUGHT")) (.cons (.call "times" (.cons (.v 2) (.cons (.v 5) .nil))) .nil)))) .nil)) .nil) ρ2) = some (.nx [x0, .ow (sD (adds ((rwS q.2).map fun x => (x.1, q.1 * x.2)) acc)), .fz (fr q.1), .fz (spD q.2), t4, t5, .un, .un]) := by
        simp only [bindP, unpD, Option.bind_some, List.set_cons_succ, List.set_cons_zero]
        rw [evSs_nx e2]
        rfl
      rw [step, Option.bind_some]
      simp only [mixL, List.flatMap_cons, adds_append] at h3 ⊢
      exact h3
    · simp only [mixL, List.flatMap_cons, adds_append] at h4 ⊢
      exact h4
theorem a_mixed {ps : List (Rat × Wt)} {A B : Nat} (hA : 0 < A) (hB : 0 < B) (hAB : A * B < 2 ^ 64) (hb : ∀ q ∈ ps, 0 ≤ q.1 ∧ q.1.den ∣ A ∧ Sp q.2 B) (one : (ps.map (·.1)).sum = 1) :
    ∃ w, Sp w (A * B) ∧ (∀ k, pr w k = (ps.map fun q => q.1 * pr q.2 k).sum) ∧ ∀ k, k ≤ pl "mixed" → ap (Gk k) "mixed" [mixD ps] = some (spD w) := by
  have hA64 : A < 2 ^ 64 := Nat.lt_of_le_of_lt (Nat.le_mul_of_pos_right A hB) hAB
  have hv : ∀ q ∈ ps, Vs q.2 := fun q hq => (hb q hq).2.2.vs
  have le1 : ∀ q ∈ ps, q.1 ≤ 1 := fun q hq => by
    have := Pv.bd (ps := ps.map fun q => ((0 : Int), q.1)) (M := A)
    have key : ∀ l : List (Rat × Wt), (∀ q ∈ l, 0 ≤ q.1) → ∀ q ∈ l, q.1 ≤ (l.map (·.1)).sum := by
      intro l
      induction l with
      | nil => intro _ q h; cases h
      | cons x r ih =>
        intro h q hq
        have h0 := h x List.mem_cons_self
        have h1 : ∀ y ∈ r, 0 ≤ y.1 := fun y hy => h y (List.mem_cons_of_mem _ hy)
        have h2 : 0 ≤ (r.map (·.1)).sum := sum_nn fun y hy => by
          obtain ⟨z, hz, e⟩ := List.mem_map.mp hy
          exact e ▸ h1 z hz
        simp only [List.map_cons, List.sum_cons]
        rcases List.mem_cons.mp hq with e | e
        · subst e; grind
        · have := ih h1 q e
          grind
    rw [← one]
    exact key ps (fun q hq => (hb q hq).1) q hq
  have sm : ∀ q ∈ ps, Sm q.1 := fun q hq => (⟨(hb q hq).1, by simpa using le1 q hq, (hb q hq).2.1⟩ : Bd A 1 q.1).sm hA hA64 (by decide)
  have a0 : Ac [] (A * B) ((ps.map (·.1)).sum) := ⟨by simp, nofun, nofun, nofun, by rw [one]; show (0 : Rat) + 1 ≤ 1; grind⟩
  obtain ⟨t2, t3, t4, t5, h1, h2⟩ := mix_out hA hB hAB (.fz (mixD ps)) ps [] .un .un .un .un (fun q hq => ⟨(hb q hq).1, sm q hq, (hb q hq).2.1, (hb q hq).2.2⟩) a0
  have pv : Pv (adds (mixL ps) []) (A * B) := ⟨h2.nd, h2.ks, h2.nn, h2.dv, by
    rw [adds_tot _ (by simp), mixL_tot ps hv, one]
    show (0 : Rat) + 1 = 1
    grind⟩
  obtain ⟨w, s, p, r⟩ := a_by' (Nat.mul_pos hA hB) hAB pv
  refine ⟨w, s, fun k => ?_, at_ rfl rfl ?_⟩
  · rw [p, adds_val, mixL_val ps hv]
    show (0 : Rat) + _ = _
    grind
  · refine run_of (ρ := [.fz (mixD ps), .un, .un, .un, .un, .un, .un, .un]) rfl rfl ?_
    unfold K03.f_mixed K03.b_mixed
    have c1 := a_pairs (ps.map fun q => (fr q.1, spD q.2)) _ (show pl "mixed" + 1 ≤ pl "are_pairs" by decide +kernel)
    rw [List.map_map] at c1
    have c1 : ap (Gk (pl "mixed" + 1)) "are_pairs" [mixD ps] = some (.bool true) := c1
    have c2 := ev_all (G := Gk (pl "mixed" + 1)) (own := [2, 3]) (e := .and_ (.call "is_chance" (.cons (.v 2) .nil)) (.isN (.call "spread_fault" (.cons (.v 3) .nil)))) (p := .cons (.v 2) (.cons (.v 3) .nil)) (it := .seq (.v 0)) (ρ := [.fz (mixD ps), .un, .un, .un, .un, .un, .un, .un]) (g := fun q : Rat × Wt => .tuple [fr q.1, spD q.2]) (bs := ps) rfl fun b hb' => by
      have f1 := a_isch (hb b hb').1 _ (show pl "mixed" + 1 ≤ pl "is_chance" by decide +kernel)
      have f2 := a_fault (hb b hb').2.2.vs _ (show pl "mixed" + 1 ≤ pl "spread_fault" by decide +kernel)
      unfold stepL
      simp [-List.map_map, xcall, xv, xnon, xbl, xint, xstr, xg, xop, xcmp, xchain, xisN, xnotN, xand, xor, xnot, xite, xbi, xisi, xtup, xlst, xix, xsl, xrev, xget, xlvals, xoget, xolen, evs, evO, evC, evS, evSs, evR, bindP, unpD, freeze, wipeE, En.get, En.own, asB, asI, isNo, f1, f2]
    rw [evSs_nx (ρ' := [.fz (mixD ps), .un, .un, .un, .un, .un, .un, .un]) (by simp [-List.map_map, xcall, xv, xnon, xbl, xint, xstr, xg, xop, xcmp, xchain, xisN, xnotN, xand, xor, xnot, xite, xbi, xisi, xtup, xlst, xix, xsl, xrev, xget, xlvals, xoget, xolen, evs, evO, evC, evS, evSs, evR, bindP, unpD, freeze, wipeE, En.get, En.own, asB, asI, isNo, c1, c2])]
    have hz : ∃ g : (Rat × Wt) → Int, ∀ q ∈ ps, ixD (Gk (pl "mixed" + 1)).tups (rowsD q.2) (.int 0) = some (prD (g q, valW q.2 (g q))) := by
      classical
      refine ⟨fun q => if h : Vs q.2 then Classical.choose (row0 (T := (Gk (pl "mixed" + 1)).tups) h) else 0, fun q hq => ?_⟩
      simp only [dif_pos (hv q hq)]
      exact Classical.choose_spec (row0 (T := (Gk (pl "mixed" + 1)).tups) (hv q hq))
    obtain ⟨g, hg⟩ := hz
    have d1 : ev (Gk (pl "mixed" + 1)) (.lc [6, 3] (.ix (.ix (.ix (.v 3) (.int 1)) (.int 0)) (.int 0)) (.cons (.v 6) (.cons (.v 3) .nil)) (.seq (.v 0)) .non) [.fz (mixD ps), .un, .un, .un, .un, .un, .un, .un] = some (.list ((ps.map g).map PyData.int)) := by
      rw [List.map_map]
      refine ev_lc (ds := ps.map fun q : Rat × Wt => .tuple [fr q.1, spD q.2]) rfl (compL_all ps fun q hq => ?_)
      have := hg q hq
      unfold stepL
      simp [-List.map_map, xcall, xv, xnon, xbl, xint, xstr, xg, xop, xcmp, xchain, xisN, xnotN, xand, xor, xnot, xite, xbi, xisi, xtup, xlst, xix, xsl, xrev, xget, xlvals, xoget, xolen, evs, evO, evC, evS, evSs, evR, bindP, unpD, freeze, wipeE, En.get, En.own, asB, asI, isNo, ix_spD, this, pr0]
    have d2 : ev (Gk (pl "mixed" + 1)) (.lc [2, 7] (.v 2) (.cons (.v 2) (.cons (.v 7) .nil)) (.seq (.v 0)) .non) [.fz (mixD ps), .un, .un, .un, .un, .un, .un, .un] = some (.list ((ps.map (·.1)).map fr)) := by
      rw [List.map_map]
      refine ev_lc (ds := ps.map fun q : Rat × Wt => .tuple [fr q.1, spD q.2]) rfl (compL_all ps fun q hq => ?_)
      unfold stepL
      simp [-List.map_map, xcall, xv, xnon, xbl, xint, xstr, xg, xop, xcmp, xchain, xisN, xnotN, xand, xor, xnot, xite, xbi, xisi, xtup, xlst, xix, xsl, xrev, xget, xlvals, xoget, xolen, evs, evO, evC, evS, evSs, evR, bindP, unpD, freeze, wipeE, En.get, En.own, asB, asI, isNo]
    have f3 := a_sort (ps.map g) _ (show pl "mixed" + 1 ≤ pl "are_of_one_sort" by decide +kernel)
    have f4 := a_sum hA hA64 (B := 1) (by decide) (l := ps.map (·.1)) (fun r hr => by
      obtain ⟨q, hq, e⟩ := List.mem_map.mp hr
      exact e ▸ ⟨(hb q hq).1, (hb q hq).2.1⟩) (by rw [one]; decide) _ (show pl "mixed" + 1 ≤ pl "sum_up" by decide +kernel)
    rw [one] at f4
    have f5 : cmpD (Gk (pl "mixed" + 1)).tups .ne (fr 1) (fr 1) = some false := cmp_ne_same rfl
    rw [evSs_nx (ρ' := [.fz (mixD ps), .un, .un, .un, .un, .un, .un, .un]) (by simp [-List.map_map, xcall, xv, xnon, xbl, xint, xstr, xg, xop, xcmp, xchain, xisN, xnotN, xand, xor, xnot, xite, xbi, xisi, xtup, xlst, xix, xsl, xrev, xget, xlvals, xoget, xolen, evs, evO, evC, evS, evSs, evR, bindP, unpD, freeze, wipeE, En.get, En.own, asB, asI, isNo, d1, d2, f3, f4, f5, cO])]
    rw [evSs_nx (ρ' := [.fz (mixD ps), .ow (sD []), .un, .un, .un, .un, .un, .un]) (by rfl)]
    have it : evI (Gk (pl "mixed" + 1)) (.seq (.v 0)) [.fz (mixD ps), .ow (sD []), .un, .un, .un, .un, .un, .un] = some (ps.map fun q => .tuple [fr q.1, spD q.2]) := by rfl
    rw [evSs_nx (evS_for it h1)]
    have r1 := r _ (show pl "mixed" + 1 ≤ pl "spread_by" by decide +kernel)
    refine evSs_rt ?_
    simp [-List.map_map, xcall, xv, xnon, xbl, xint, xstr, xg, xop, xcmp, xchain, xisN, xnotN, xand, xor, xnot, xite, xbi, xisi, xtup, xlst, xix, xsl, xrev, xget, xlvals, xoget, xolen, evs, evO, evC, evS, evSs, evR, bindP, unpD, freeze, wipeE, En.get, En.own, asB, asI, isNo, r1]
end PL


set_option Elab.async false
set_option linter.all false
set_option maxRecDepth 100000
set_option exponentiation.threshold 20000
/-! MV: turned. -/
namespace PL
open PySem
def awy (m : Nat) (k : Rat) : Rat := (1 - k) * mkRat 1 (m - 1)
/-- the chances of an answer turned -/
def Tn (m : Nat) (i : Int) (k : Rat) (j : Int) : Rat := if 0 ≤ j ∧ j < m then (if j = i then k else awy m k) else 0
def tsF (m : Nat) (i : Int) (k : Rat) : Sh := (List.range m).map fun (j : Nat) => ((j : Int), if (j : Int) = i then k else awy m k)
theorem awy_eq {m : Nat} (h : 2 ≤ m) (k : Rat) : awy m k * ((m : Rat) - 1) = 1 - k := by
  unfold awy
  rw [Rat.mkRat_eq_div]
  have e : ((m - 1 : Nat) : Rat) = (m : Rat) - 1 := by
    have : ((m - 1 : Nat) : Int) = (m : Int) - 1 := by omega
    have h2 : (((m - 1 : Nat) : Int) : Rat) = (((m : Int) - 1 : Int) : Rat) := by rw [this]
    push_cast at h2
    exact h2
  rw [e]
  have h3 : (m : Rat) - 1 ≠ 0 := by
    rw [← e]
    exact_mod_cast (show m - 1 ≠ 0 by omega)
  push_cast
  generalize (m : Rat) = x at *
  grind
theorem tsF_keys (m : Nat) (i : Int) (k : Rat) : (tsF m i k).map (·.1) = (List.range m).map fun (j : Nat) => (j : Int) := by
  unfold tsF
  rw [List.map_map]
  rfl
theorem range_nd (m : Nat) : ((List.range m).map fun (j : Nat) => (j : Int)).Nodup := by
  rw [List.Nodup, List.pairwise_map]
  exact List.nodup_range.imp fun h e => h (by exact_mod_cast e)
theorem val_rng (f : Int → Rat) (j : Int) (m : Nat) : valS ((List.range m).map fun (j : Nat) => ((j : Int), f j)) j = if 0 ≤ j ∧ j < m then f j else 0 := by
  by_cases h : 0 ≤ j ∧ j < m
  · rw [if_pos h]
    have hm : (j, f j) ∈ (List.range m).map fun (j : Nat) => ((j : Int), f j) := List.mem_map.mpr ⟨j.toNat, List.mem_range.mpr (by omega), by rw [show ((j.toNat : Nat) : Int) = j by omega]⟩
    have nd : (((List.range m).map fun (j : Nat) => ((j : Int), f j)).map (·.1)).Nodup := by rw [List.map_map]; exact range_nd m
    have hk : j ∈ ((List.range m).map fun (j : Nat) => ((j : Int), f j)).map (·.1) := List.mem_map_of_mem (f := Prod.fst) hm
    have h2 := valS_mem hk
    obtain ⟨x, hx, e⟩ := List.mem_map.mp h2
    have e1 := congrArg Prod.fst e
    have e2 := congrArg Prod.snd e
    simp only at e1 e2
    rw [← e2, e1]
  · rw [if_neg h]
    refine valS_none fun hk => h ?_
    rw [List.map_map] at hk
    obtain ⟨x, hx, e⟩ := List.mem_map.mp hk
    have := List.mem_range.mp hx
    simp only [Function.comp] at e
    omega
theorem tsF_val (m : Nat) (i : Int) (k : Rat) (j : Int) : valS (tsF m i k) j = Tn m i k j := val_rng (fun j => if j = i then k else awy m k) j m
theorem Tn_split (m : Nat) (i : Int) (k : Rat) {j : Int} (h0 : 0 ≤ j) (h1 : j < m) : Tn m i k j = awy m k + if j = i then k - awy m k else 0 := by
  unfold Tn
  rw [if_pos ⟨h0, h1⟩]
  split <;> grind
theorem Tn_sum {m : Nat} (h : 2 ≤ m) {i : Int} (i0 : 0 ≤ i) (i1 : i < m) (k : Rat) : smR m (Tn m i k) = 1 := by
  rw [smR_congr (g := fun j => awy m k + if j = i then k - awy m k else 0) fun j h0 h1 => Tn_split m i k h0 h1, smR_add, smR_const, smR_one i i0 i1]
  have := awy_eq h k
  grind
theorem Tn_bd {m A : Nat} (h : 2 ≤ m) {i : Int} {k : Rat} (k0 : 0 ≤ k) (k1 : k ≤ 1) (kd : k.den ∣ A) (j : Int) : 0 ≤ Tn m i k j ∧ (Tn m i k j).den ∣ A * (m - 1) := by
  have a0 : 0 ≤ awy m k := Rat.mul_nonneg (by grind) (by
    rw [Rat.mkRat_eq_div]
    exact Rat.le_of_lt (div_pos' (by decide) (by exact_mod_cast (show 0 < m - 1 by omega))))
  unfold Tn
  split
  · split
    · exact ⟨k0, Nat.dvd_trans kd (Nat.dvd_mul_right _ _)⟩
    · exact ⟨a0, dvd_mul (dvd_sub (dvd_one A) kd) (mkRat_dvd 1 (by omega))⟩
  · exact ⟨by decide, dvd_zero _⟩
theorem tsF_pv {m A : Nat} (h : 2 ≤ m) (h20 : m ≤ 20) {i : Int} (i0 : 0 ≤ i) (i1 : i < m) {k : Rat} (k0 : 0 ≤ k) (k1 : k ≤ 1) (kd : k.den ∣ A) : Pv (tsF m i k) (A * (m - 1)) := by
  have hq : ∀ q ∈ tsF m i k, ∃ j : Int, q.2 = Tn m i k j := fun q hq => by
    obtain ⟨x, hx, e⟩ := List.mem_map.mp hq
    refine ⟨x, ?_⟩
    subst e
    have hx' := List.mem_range.mp hx
    have hc : 0 ≤ (x : Int) ∧ (x : Int) < m := ⟨by omega, by omega⟩
    unfold Tn
    rw [if_pos hc]
  refine ⟨by rw [tsF_keys]; exact range_nd m, fun j hj => ?_, fun q hq' => ?_, fun q hq' => ?_, ?_⟩
  · rw [tsF_keys] at hj
    obtain ⟨x, hx, e⟩ := List.mem_map.mp hj
    have := List.mem_range.mp hx
    omega
  · obtain ⟨j, e⟩ := hq q hq'
    rw [e]
    exact (Tn_bd h k0 k1 kd j).1
  · obtain ⟨j, e⟩ := hq q hq'
    rw [e]
    exact (Tn_bd h k0 k1 kd j).2
  · rw [← Tn_sum h i0 i1 k]
    unfold totS tsF smR
    rw [List.map_map]
    congr 1
    refine List.map_congr_left fun x hx => ?_
    unfold Tn
    rw [if_pos ⟨by omega, by have := List.mem_range.mp hx; omega⟩]
    rfl
theorem rng_m {m : Nat} (h : m ≤ 1000) : rngD 0 (m : Int) = some ((List.range m).map fun (j : Nat) => .int (j : Int)) := by
  unfold rngD
  rw [if_pos (by omega)]
  simp
theorem asI_int (z : Int) : asI (some (.int z)) = some z := rfl
theorem ev_rng {G : Gb} {ρ : En} {a : Ex} {m : Nat} (h : ev G a ρ = some (.int (m : Int))) (hm : m ≤ 1000) : evI G (.rng1 a) ρ = some ((List.range m).map fun (j : Nat) => .int (j : Int)) := by
  have e : evI G (.rng1 a) ρ = (asI (ev G a ρ)).bind fun z => rngD 0 z := by simp only [evI]
  rw [e, h, asI_int, Option.bind_some]
  exact rng_m hm
theorem eq_int {T : List D} (a b : Int) : cmpD T .eq (.int a) (.int b) = some (decide (a = b)) := by
  have : SeqAt.shaped (.int a) = true := rfl
  have h2 : SeqAt.shaped (.int b) = true := rfl
  simp only [cmpD, this, h2, Bool.and_self, if_true, PyData.eqv]
  rfl
end PL


set_option Elab.async false
set_option linter.all false
set_option maxRecDepth 100000
set_option exponentiation.threshold 20000
/-! MW: what is left over. -/
namespace PL
open PySem
def ppt (x : Rat) : Rat := if 0 < x then x else 0
theorem ppt_nn (x : Rat) : 0 ≤ ppt x := by unfold ppt; split <;> grind
theorem ppt_le {x y : Rat} (h : x ≤ y) (hy : 0 ≤ y) : ppt x ≤ y := by unfold ppt; split <;> grind
/-- what is left over -/
def Lf (one two : Wt) (r : Rat) : Rat := smR 60 fun k => ppt (pr one k - r * pr two k)
/-- a row's rest -/
def lfR (two : Wt) (r : Rat) (q : Int × Rat) : Option (Int × Rat) := if r * pr two q.1 < q.2 then some (q.1, q.2 - r * pr two q.1) else none
theorem put_end {α : Type} {l : List (Int × α)} {k : Int} {v : α} (h : k ∉ l.map (·.1)) : putI l k v = l ++ [(k, v)] := by unfold putI; rw [if_neg h]
theorem lf_loop {M1 M2 A : Nat} (h1 : 0 < M1) (h2 : 0 < M2) (hA : 0 < A) (hM : M1 * (A * M2) < 2 ^ 64) {one two : Wt} (s1 : Sp one M1) (s2 : Sp two M2) {r : Rat} (r0 : 0 ≤ r) (rs : Sm r) (rd : r.den ∣ A) (rb : r ≤ (1000 : Nat)) (bs : Sh) (hb : ∀ q ∈ bs, q.2 = pr one q.1) (acc : Sh) (x5 x6 x7 : Sl) (nd : ((acc ++ bs).map (·.1)).Nodup) (len : (acc ++ bs).length ≤ 100) :
    ∃ t5 t6 t7, forL (fun d ρ1 => (bindP (.cons (.v 5) (.cons (.v 6) .nil)) d ρ1).bind fun ρ2 => evSs (Gk (pl "lefts_of" + 1)) (.cons (.asg (.v 7) (.call "times" (.cons (.v 2) (.cons (.get (.v 3) (.v 5) (.g "NOUGHT")) .nil)))) (.cons (.ife (.call "is_less" (.cons (.v 7) (.cons (.v 6) .nil))) (.cons (.put 4 (.v 5) (.call "minus" (.cons (.v 6) (.cons (.v 7) .nil)))) .nil) .nil) .nil)) ρ2)
      (bs.map fun q => .tuple [.int q.1, fr q.2]) [.fz (spD one), .fz (spD two), .fz (fr r), .fz (shD two), .ow (sD acc), x5, x6, x7] = some (.nx [.fz (spD one), .fz (spD two), .fz (fr r), .fz (shD two), .ow (sD (acc ++ bs.filterMap (lfR two r))), t5, t6, t7]) := by
  have g1 : M1 < 2 ^ 64 := Nat.lt_of_le_of_lt (Nat.le_mul_of_pos_right M1 (Nat.mul_pos hA h2)) hM
  have g2 : A * M2 < 2 ^ 64 := Nat.lt_of_le_of_lt (Nat.le_mul_of_pos_left _ h1) hM
  have g3 : M2 < 2 ^ 64 := Nat.lt_of_le_of_lt (Nat.le_mul_of_pos_left _ hA) g2
  induction bs generalizing acc x5 x6 x7 with
  | nil => exact ⟨x5, x6, x7, by simp [forL]⟩
  | cons q bs ih =>
    obtain ⟨k, p⟩ := q
    have hp : p = pr one k := hb (k, p) List.mem_cons_self
    subst hp
    have hr : ∀ q ∈ bs, q.2 = pr one q.1 := fun x hx => hb x (List.mem_cons_of_mem _ hx)
    have b1 := pr_bd s1 k
    have b2 := pr_bd s2 k
    have bt : Bd (A * M2) (1000 * 1) (r * pr two k) := Bd.mul ⟨r0, rb, rd⟩ b2
    have sp1 := b1.sm h1 g1 (by decide)
    have sp2 := b2.sm h2 g3 (by decide)
    have st := bt.sm (Nat.mul_pos hA h2) g2 (by decide)
    have e1 := a_times rs sp2 _ (show pl "lefts_of" + 1 ≤ pl "times" by decide +kernel)
    have e2 := a_less st sp1 _ (show pl "lefts_of" + 1 ≤ pl "is_less" by decide +kernel)
    have e3 := a_minus sp1 st _ (show pl "lefts_of" + 1 ≤ pl "minus" by decide +kernel)
    have cn := cN (pl "lefts_of" + 1)
    have e4 : dget (Gk (pl "lefts_of" + 1)).tups (shD two) (.int k) (fr 0) = some (fr (pr two k)) := by
      simp only [dget, shD, getK_ints, Option.map_some, Option.some.injEq]
      unfold shK pr valW
      rw [shK_lookup]
      cases two.lookup k with
      | none => simp
      | some v => rfl
    have hk : k ∉ acc.map (·.1) := by
      rw [List.map_append, List.map_cons] at nd
      intro h
      exact (List.nodup_append.mp nd).2.2 k h k List.mem_cons_self rfl
    rw [List.map_cons, forL_cons]
    by_cases hl : r * pr two k < pr one k
    · rw [decide_eq_true hl] at e2
      have e5 : dputD (Gk (pl "lefts_of" + 1)).tups (sD acc) (.int k) (fr (pr one k - r * pr two k)) = some (sD (acc ++ [(k, pr one k - r * pr two k)])) := by
        unfold sD
        rw [dput_ints (by simp [sk] at len ⊢; omega), sk_put, put_end hk]
      have step : (bindP (.cons (.v 5) (.cons (.v 6) .nil)) (.tuple [.int k, fr (pr one k)]) [.fz (spD one), .fz (spD two), .fz (fr r), .fz (shD two), .ow (sD acc), x5, x6, x7]).bind (fun ρ2 => evSs (Gk (pl "lefts_of" + 1)) (.cons (.asg (.v 7) (.call "times" (.cons (.v 2) (.cons (.get (.v 3) (.v 5) (.g "NOUGHT")) .nil)))) (.cons (.ife (.call "is_less" (.cons (.v 7) (.cons (.v 6) .nil))) (.cons (.put 4 (.v 5) (.call "minus" (.cons (.v 6) (.cons (.v 7) .nil)))) .nil) .nil) .nil)) ρ2) = some (.nx [.fz (spD one), .fz (spD two), .fz (fr r), .fz (shD two), .ow (sD (acc ++ [(k, pr one k - r * pr two k)])), .fz (.int k), .fz (fr (pr one k)), .fz (fr (r * pr two k))]) := by
        simp [-List.map_map, xcall, xv, xnon, xbl, xint, xstr, xg, xop, xcmp, xchain, xisN, xnotN, xand, xor, xnot, xite, xbi, xisi, xtup, xlst, xix, xsl, xrev, xget, xlvals, xoget, xolen, evs, evO, evC, evS, evSs, evR, bindP, unpD, freeze, wipeE, En.get, En.own, asB, asI, isNo, e1, e2, e3, e4, e5, cn]
      rw [step, Option.bind_some]
      obtain ⟨t5, t6, t7, h⟩ := ih hr (acc ++ [(k, pr one k - r * pr two k)]) (.fz (.int k)) (.fz (fr (pr one k))) (.fz (fr (r * pr two k))) (by
        simp only [List.map_append, List.map_cons, List.map_nil, List.append_assoc, List.cons_append, List.nil_append] at nd ⊢
        exact nd) (by simp at len ⊢; omega)
      refine ⟨t5, t6, t7, ?_⟩
      have ef : List.filterMap (lfR two r) ((k, pr one k) :: bs) = (k, pr one k - r * pr two k) :: List.filterMap (lfR two r) bs := by
        rw [List.filterMap_cons]
        simp only [lfR, if_pos hl]
      rw [ef]
      exact Eq.trans h (by simp)
    · rw [decide_eq_false hl] at e2
      have step : (bindP (.cons (.v 5) (.cons (.v 6) .nil)) (.tuple [.int k, fr (pr one k)]) [.fz (spD one), .fz (spD two), .fz (fr r), .fz (shD two), .ow (sD acc), x5, x6, x7]).bind (fun ρ2 => evSs (Gk (pl "lefts_of" + 1)) (.cons (.asg (.v 7) (.call "times" (.cons (.v 2) (.cons (.get (.v 3) (.v 5) (.g "NOUGHT")) .nil)))) (.cons (.ife (.call "is_less" (.cons (.v 7) (.cons (.v 6) .nil))) (.cons (.put 4 (.v 5) (.call "minus" (.cons (.v 6) (.cons (.v 7) .nil)))) .nil) .nil) .nil)) ρ2) = some (.nx [.fz (spD one), .fz (spD two), .fz (fr r), .fz (shD two), .ow (sD acc), .fz (.int k), .fz (fr (pr one k)), .fz (fr (r * pr two k))]) := by
        simp [-List.map_map, xcall, xv, xnon, xbl, xint, xstr, xg, xop, xcmp, xchain, xisN, xnotN, xand, xor, xnot, xite, xbi, xisi, xtup, xlst, xix, xsl, xrev, xget, xlvals, xoget, xolen, evs, evO, evC, evS, evSs, evR, bindP, unpD, freeze, wipeE, En.get, En.own, asB, asI, isNo, e1, e2, e4, cn]
      rw [step, Option.bind_some]
      obtain ⟨t5, t6, t7, h⟩ := ih hr acc (.fz (.int k)) (.fz (fr (pr one k))) (.fz (fr (r * pr two k))) (by
        rw [List.map_append, List.map_cons] at nd
        rw [List.map_append]
        have n := List.nodup_append.mp nd
        exact List.nodup_append.mpr ⟨n.1, (List.nodup_cons.mp n.2.1).2, fun a ha b hb => n.2.2 a ha b (List.mem_cons_of_mem _ hb)⟩) (by simp at len ⊢; omega)
      refine ⟨t5, t6, t7, ?_⟩
      have ef : List.filterMap (lfR two r) ((k, pr one k) :: bs) = List.filterMap (lfR two r) bs := by
        rw [List.filterMap_cons]
        simp only [lfR, if_neg hl]
      rw [ef]
      exact h
theorem rwS_pr {w : Wt} (v : Vs w) : ∀ q ∈ rwS w, q.2 = pr w q.1 := by
  intro q hq
  obtain ⟨p, hp, e⟩ := List.mem_map.mp hq
  subst e
  exact pr_mem v hp
theorem a_lefts {M1 M2 A : Nat} (h1 : 0 < M1) (h2 : 0 < M2) (hA : 0 < A) (hM : M1 * (A * M2) < 2 ^ 64) {one two : Wt} (s1 : Sp one M1) (s2 : Sp two M2) {r : Rat} (r0 : 0 ≤ r) (rd : r.den ∣ A) (rb : r ≤ (1000 : Nat)) : ∀ k, k ≤ pl "lefts_of" → ap (Gk k) "lefts_of" [spD one, spD two, fr r] = some (sD ((rwS one).filterMap (lfR two r))) := by
  have g1 : M1 < 2 ^ 64 := Nat.lt_of_le_of_lt (Nat.le_mul_of_pos_right M1 (Nat.mul_pos hA h2)) hM
  have g2 : A * M2 < 2 ^ 64 := Nat.lt_of_le_of_lt (Nat.le_mul_of_pos_left _ h1) hM
  have g3 : M2 < 2 ^ 64 := Nat.lt_of_le_of_lt (Nat.le_mul_of_pos_left _ hA) g2
  have g4 : A < 2 ^ 64 := Nat.lt_of_le_of_lt (Nat.le_mul_of_pos_right _ h2) g2
  have rs : Sm r := (⟨r0, rb, rd⟩ : Bd A 1000 r).sm hA g4 (by decide)
  refine at_ rfl rfl ?_
  obtain ⟨t5, t6, t7, h⟩ := lf_loop h1 h2 hA hM s1 s2 r0 rs rd rb (rwS one) (rwS_pr s1.vs) [] .un .un .un (by rw [List.nil_append, rwS_keys]; exact s1.vs.nd) (by have := s1.len; simp [rwS]; omega)
  refine run_of (ρ := [.fz (spD one), .fz (spD two), .fz (fr r), .un, .un, .un, .un, .un]) rfl rfl ?_
  unfold K03.f_lefts_of K03.b_lefts_of
  have e1 := a_shares h1 g1 s1 _ (show pl "lefts_of" + 1 ≤ pl "shares_of" by decide +kernel)
  have e2 := a_shares h2 g3 s2 _ (show pl "lefts_of" + 1 ≤ pl "shares_of" by decide +kernel)
  rw [evSs_nx (ρ' := [.fz (spD one), .fz (spD two), .fz (fr r), .fz (shD two), .ow (sD []), .un, .un, .un]) (by simp [-List.map_map, xcall, xv, xnon, xbl, xint, xstr, xg, xop, xcmp, xchain, xisN, xnotN, xand, xor, xnot, xite, xbi, xisi, xtup, xlst, xix, xsl, xrev, xget, xlvals, xoget, xolen, evs, evO, evC, evS, evSs, evR, bindP, unpD, freeze, wipeE, En.get, En.own, asB, asI, isNo, e2]; rfl)]
  have it : evI (Gk (pl "lefts_of" + 1)) (.items (.call "shares_of" (.cons (.v 0) .nil))) [.fz (spD one), .fz (spD two), .fz (fr r), .fz (shD two), .ow (sD []), .un, .un, .un] = some ((rwS one).map fun q => .tuple [.int q.1, fr q.2]) := by
    unfold evI
    simp [-List.map_map, xcall, xv, xnon, xbl, xint, xstr, xg, xop, xcmp, xchain, xisN, xnotN, xand, xor, xnot, xite, xbi, xisi, xtup, xlst, xix, xsl, xrev, xget, xlvals, xoget, xolen, evs, evO, evC, evS, evSs, evR, bindP, unpD, freeze, wipeE, En.get, En.own, asB, asI, isNo, e1, shD_items]
  rw [evSs_nx (evS_for it h)]
  refine evSs_rt ?_
  rw [List.nil_append]
  simp [-List.map_map, xcall, xv, xnon, xbl, xint, xstr, xg, xop, xcmp, xchain, xisN, xnotN, xand, xor, xnot, xite, xbi, xisi, xtup, xlst, xix, xsl, xrev, xget, xlvals, xoget, xolen, evs, evO, evC, evS, evSs, evR, bindP, unpD, freeze, wipeE, En.get, En.own, asB, asI, isNo]
theorem lvals_sD (ps : Sh) : lvalsI (sD ps) = some (.list ((ps.map (·.2)).map fr)) := by
  have k := noO_ints (sk ps)
  simp only [lvalsI, sD, k, if_true, vals_ints]
  simp only [sk, List.map_map]
  rfl
theorem lf_sum {one two : Wt} {M : Nat} (s1 : Sp one M) (r : Rat) (r0 : 0 ≤ r) (v2 : Vs two) : (((rwS one).filterMap (lfR two r)).map (·.2)).sum = Lf one two r := by
  have e : ∀ l : Sh, ((l.filterMap (lfR two r)).map (·.2)).sum = (l.map fun q => ppt (q.2 - r * pr two q.1)).sum := by
    intro l
    induction l with
    | nil => rfl
    | cons q t ih =>
      rw [List.filterMap_cons, List.map_cons, List.sum_cons]
      by_cases h : r * pr two q.1 < q.2
      · have e1 : lfR two r q = some (q.1, q.2 - r * pr two q.1) := if_pos h
        have e2 : ppt (q.2 - r * pr two q.1) = q.2 - r * pr two q.1 := if_pos (by grind)
        rw [e1, e2]
        simp only [List.map_cons, List.sum_cons]
        rw [ih]
      · have e1 : lfR two r q = none := if_neg h
        have e2 : ppt (q.2 - r * pr two q.1) = 0 := if_neg (by grind)
        rw [e1, e2]
        simp only
        rw [ih]
        grind
  rw [e]
  have e2 : (rwS one).map (fun q => ppt (q.2 - r * pr two q.1)) = ((rwS one).map fun q => (q.1, ppt (pr one q.1 - r * pr two q.1))).map (·.2) := by
    rw [List.map_map]
    refine List.map_congr_left fun q hq => ?_
    simp only [Function.comp]
    rw [rwS_pr s1.vs q hq]
  rw [e2]
  rw [← smR_keys (n := 60) (fun _ _ r => r) _ (fun q hq => by
    obtain ⟨x, hx, e⟩ := List.mem_map.mp hq
    subst e
    exact s1.ks x.1 (by rw [← rwS_keys]; exact List.mem_map_of_mem hx))]
  unfold Lf
  refine smR_congr fun j _ _ => ?_
  have nd : (((rwS one).map fun q => (q.1, ppt (pr one q.1 - r * pr two q.1))).map (·.1)).Nodup := by
    rw [List.map_map]
    show ((rwS one).map (·.1)).Nodup
    rw [rwS_keys]
    exact s1.vs.nd
  have := sumAt_val nd j
  unfold sumAt at this
  rw [this]
  by_cases hj : j ∈ one.map (·.1)
  · have hk : j ∈ (((rwS one).map fun q => (q.1, ppt (pr one q.1 - r * pr two q.1))).map (·.1)) := by
      rw [List.map_map]
      show j ∈ (rwS one).map (·.1)
      rw [rwS_keys]
      exact hj
    obtain ⟨x, hx, e⟩ := List.mem_map.mp (valS_mem hk)
    have e1 := congrArg Prod.fst e
    have e2 := congrArg Prod.snd e
    simp only at e1 e2
    rw [← e2, e1]
  · rw [valS_none (by
      rw [List.map_map]
      show j ∉ (rwS one).map (·.1)
      rw [rwS_keys]
      exact hj), pr_none hj]
    unfold ppt
    have := Rat.mul_nonneg r0 (pr_nn v2 j)
    rw [if_neg (by grind)]
theorem a_leftby {M1 M2 A : Nat} (h1 : 0 < M1) (h2 : 0 < M2) (hA : 0 < A) (hM : M1 * (A * M2) < 2 ^ 64) {one two : Wt} (s1 : Sp one M1) (s2 : Sp two M2) {r : Rat} (r0 : 0 ≤ r) (rd : r.den ∣ A) (rb : r ≤ (1000 : Nat)) : ∀ k, k ≤ pl "left_by" → ap (Gk k) "left_by" [spD one, spD two, fr r] = some (fr (Lf one two r)) := by
  refine at_ rfl rfl ?_
  have e1 := a_lefts h1 h2 hA hM s1 s2 r0 rd rb _ (show pl "left_by" + 1 ≤ pl "lefts_of" by decide +kernel)
  have hs := lf_sum s1 r r0 s2.vs
  have hle : Lf one two r ≤ 1 := by
    rw [← pr_sum s1]
    unfold Lf
    refine smR_le fun j _ _ => ppt_le ?_ (pr_nn s1.vs j)
    have := Rat.mul_nonneg r0 (pr_nn s2.vs j)
    grind
  have e2 := a_sum (Nat.mul_pos h1 (Nat.mul_pos hA h2)) hM (B := 1) (by decide) (l := ((rwS one).filterMap (lfR two r)).map (·.2)) (fun x hx => by
    obtain ⟨q, hq, e⟩ := List.mem_map.mp hx
    obtain ⟨y, hy, e2⟩ := List.mem_filterMap.mp hq
    unfold lfR at e2
    split at e2
    · cases e2
      subst e
      rename_i hlt
      refine ⟨by grind, ?_⟩
      rw [rwS_pr s1.vs y hy]
      exact dvd_sub (Nat.dvd_trans (pr_bd s1 y.1).dv (Nat.dvd_mul_right _ _)) (Nat.dvd_trans (dvd_mul rd (pr_bd s2 y.1).dv) (Nat.dvd_mul_left _ _))
    · cases e2) (by rw [hs]; simpa using hle) _ (show pl "left_by" + 1 ≤ pl "sum_up" by decide +kernel)
  rw [hs] at e2
  refine run_of (ρ := [.fz (spD one), .fz (spD two), .fz (fr r)]) rfl rfl ?_
  unfold K03.f_left_by K03.b_left_by
  refine evSs_rt ?_
  simp [-List.map_map, xcall, xv, xnon, xbl, xint, xstr, xg, xop, xcmp, xchain, xisN, xnotN, xand, xor, xnot, xite, xbi, xisi, xtup, xlst, xix, xsl, xrev, xget, xlvals, xoget, xolen, evs, evO, evC, evS, evSs, evR, bindP, unpD, freeze, wipeE, En.get, En.own, asB, asI, isNo, e1, lvals_sD, e2]
theorem a_both {one two : Wt} (v1 : Vs one) (v2 : Vs two) : ∀ k, k ≤ pl "_check_both" → ap (Gk k) "_check_both" [spD one, spD two] = some .none := by
  refine at_ rfl rfl ?_
  have e1 := a_check v1 _ (show pl "_check_both" + 1 ≤ pl "check_spread" by decide +kernel)
  have e2 := a_check v2 _ (show pl "_check_both" + 1 ≤ pl "check_spread" by decide +kernel)
  unfold K03.f__check_both K03.b__check_both
  simp [-List.map_map, xcall, xv, xnon, xbl, xint, xstr, xg, xop, xcmp, xchain, xisN, xnotN, xand, xor, xnot, xite, xbi, xisi, xtup, xlst, xix, xsl, xrev, xget, xlvals, xoget, xolen, evs, evO, evC, evS, evSs, evR, bindP, unpD, freeze, wipeE, En.get, En.own, asB, asI, isNo, run, e1, e2]
end PL


set_option Elab.async false
set_option linter.all false
set_option maxRecDepth 100000
set_option exponentiation.threshold 20000
/-! MX: a dict of pairs; mapped. -/
namespace PL
open PySem
theorem toPairs_rows : ∀ w : Wt, toPairs (w.map prD) = some ((wk w).map kd)
  | [] => rfl
  | q :: r => by
    have := toPairs_rows r
    simp only [List.map_cons, prD, toPairs] at this ⊢
    rw [this]
    rfl
theorem dictOf_rows {T : List D} : ∀ (w acc : Wt), ((acc ++ w).map (·.1)).Nodup → dictOfPairs T ((wk acc).map kd) ((wk w).map kd) = some ((wk (acc ++ w)).map kd)
  | [], acc, _ => by simp [dictOfPairs, wk]
  | q :: r, acc, nd => by
    obtain ⟨k, v⟩ := q
    have hk : k ∉ (wk acc).map (·.1) := by
      rw [wk_keys]
      rw [List.map_append, List.map_cons] at nd
      intro h
      exact (List.nodup_append.mp nd).2.2 k h k List.mem_cons_self rfl
    have e : (wk ((k, v) :: r)).map kd = (.int k, .int v) :: (wk r).map kd := rfl
    rw [e]
    simp only [dictOfPairs, keyK_ints, Option.bind_some]
    rw [putD_ints, put_end hk]
    have e2 : wk acc ++ [(k, PyData.int v)] = wk (acc ++ [(k, v)]) := by simp [wk]
    rw [e2, dictOf_rows r (acc ++ [(k, v)]) (by
      simp only [List.map_append, List.map_cons, List.map_nil, List.append_assoc, List.cons_append, List.nil_append] at nd ⊢
      exact nd)]
    simp
theorem dict_rows {T : List D} {w : Wt} (hne : w ≠ []) (nd : (w.map (·.1)).Nodup) : biD T .dict [rowsD w] = some (wD w) := by
  have h1 : (w.map prD).isEmpty = false := by
    cases w with
    | nil => exact absurd rfl hne
    | cons _ _ => rfl
  have h3 := dictOf_rows (T := T) w [] (by simpa using nd)
  simp only [biD, rowsD, h1, Bool.false_eq_true, if_false, toPairs_rows, Option.bind_some, mkDict]
  rw [show ([] : List (D × D)) = (wk []).map kd from rfl, h3]
  rfl
def wS (w : Wt) : Sh := w.map fun q => (q.1, (q.2 : Rat))
theorem wS_keys (w : Wt) : (wS w).map (·.1) = w.map (·.1) := by unfold wS; rw [List.map_map]; rfl
theorem wS_val (w : Wt) (k : Int) : valS (wS w) k = (valW w k : Rat) := by
  induction w with
  | nil => simp [wS, valS, valW]
  | cons q r ih =>
    obtain ⟨a, b⟩ := q
    show valS ((a, (b : Rat)) :: wS r) k = _
    rw [valS_cons, ih]
    unfold valW
    rw [List.lookup_cons]
    by_cases h : k = a
    · simp [h]
    · have : (k == a) = false := beq_eq_false_iff_ne.mpr h
      simp [this, h]
theorem wS_tot (w : Wt) : totS (wS w) = (tot w : Rat) := by
  induction w with
  | nil => simp [wS, totS, tot]
  | cons q r ih =>
    have e1 : totS (wS (q :: r)) = (q.2 : Rat) + totS (wS r) := by simp only [wS, List.map_cons, totS, List.sum_cons]
    have e2 : tot (q :: r) = q.2 + tot r := by simp only [List.map_cons, tot, List.sum_cons]
    rw [e1, e2, ih, Rat.intCast_add]
def addW (acc : Wt) (k v : Int) : Wt := putI acc k (valW acc k + v)
theorem wS_add (acc : Wt) (k v : Int) : wS (addW acc k v) = addS (wS acc) k (v : Rat) := by
  unfold addW addS wS
  rw [putI_map]
  have := wS_val acc k
  unfold wS at this
  rw [this, Rat.intCast_add]
def addsW (L acc : Wt) : Wt := L.foldl (fun a q => addW a q.1 q.2) acc
theorem wS_adds : ∀ (L acc : Wt), wS (addsW L acc) = adds (wS L) (wS acc)
  | [], acc => rfl
  | q :: r, acc => by
    show wS (addsW r (addW acc q.1 q.2)) = adds (wS r) (addS (wS acc) q.1 (q.2 : Rat))
    rw [wS_adds r, wS_add]
theorem wk_look (w : Wt) (k : Int) : ((wk w).lookup k).getD (.int 0) = .int (valW w k) := by
  rw [wk_lookup]
  unfold valW
  cases w.lookup k <;> rfl
/-- the loop of mapped -/
theorem map_loop (pairs : Wt) (x0 x1 : Sl) (bs : Wt) (hb : ∀ q ∈ bs, q.1 ∈ pairs.map (·.1)) (pd : (pairs.map (·.1)).Nodup) (acc : Wt) (x4 x5 x6 : Sl) (len : acc.length + bs.length ≤ 500) :
    ∃ t4 t5, forL (fun d ρ1 => (bindP (.cons (.v 4) (.cons (.v 5) .nil)) d ρ1).bind fun ρ2 => evSs (Gk (pl "mapped" + 1)) (.cons (.put 3 (.ix (.v 2) (.v 4)) (.op .add (.oget 3 (.ix (.v 2) (.v 4)) (.int 0)) (.v 5))) .nil) ρ2)
      (bs.map prD) [x0, x1, .fz (wD pairs), .ow (wD acc), x4, x5, x6] = some (.nx [x0, x1, .fz (wD pairs), .ow (wD (addsW (bs.map fun q => (valW pairs q.1, q.2)) acc)), t4, t5, x6]) := by
  induction bs generalizing acc x4 x5 with
  | nil => exact ⟨x4, x5, rfl⟩
  | cons q r ih =>
    have hq := hb q List.mem_cons_self
    have hr : ∀ x ∈ r, x.1 ∈ pairs.map (·.1) := fun x hx => hb x (List.mem_cons_of_mem _ hx)
    obtain ⟨v, hv⟩ := lookup_of_mem hq
    have ev_ : valW pairs q.1 = v := by unfold valW; rw [hv]; rfl
    have e1 : ixD (Gk (pl "mapped" + 1)).tups (wD pairs) (.int q.1) = some (.int v) := by
      simp only [ixD, wD, getK_ints, wk_lookup, hv, Option.map_some, Option.bind_some, id]
    have e2 : dget (Gk (pl "mapped" + 1)).tups (wD acc) (.int v) (.int 0) = some (.int (valW acc v)) := by
      unfold wD
      rw [oget_ints, wk_look]
    have e3 : dputD (Gk (pl "mapped" + 1)).tups (wD acc) (.int v) (.int (valW acc v + q.2)) = some (wD (addW acc v q.2)) := by
      unfold wD
      rw [dput_ints (by simp [wk] at len ⊢; omega)]
      unfold wk addW
      rw [putI_map]
    rw [List.map_cons, forL_cons]
    have step : (bindP (.cons (.v 4) (.cons (.v 5) .nil)) (prD q) [x0, x1, .fz (wD pairs), .ow (wD acc), x4, x5, x6]).bind (fun ρ2 => evSs (Gk (pl "mapped" + 1)) (.cons (.put 3 (.ix (.v 2) (.v 4)) (.op .add (.oget 3 (.ix (.v 2) (.v 4)) (.int 0)) (.v 5))) .nil) ρ2) = some (.nx [x0, x1, .fz (wD pairs), .ow (wD (addW acc v q.2)), .fz (.int q.1), .fz (.int q.2), x6]) := by
      unfold prD
      simp [-List.map_map, xcall, xv, xnon, xbl, xint, xstr, xg, xop, xcmp, xchain, xisN, xnotN, xand, xor, xnot, xite, xbi, xisi, xtup, xlst, xix, xsl, xrev, xget, xlvals, xoget, xolen, evs, evO, evC, evS, evSs, evR, bindP, unpD, freeze, wipeE, En.get, En.own, asB, asI, isNo, e1, e2, e3, add_i]
    rw [step, Option.bind_some]
    have hlen : (addW acc v q.2).length ≤ acc.length + 1 := by
      unfold addW putI
      split
      · simp
      · simp
    obtain ⟨t4, t5, h⟩ := ih hr (addW acc v q.2) (.fz (.int q.1)) (.fz (.int q.2)) (by simp at len; omega)
    refine ⟨t4, t5, ?_⟩
    rw [List.map_cons, ev_]
    exact h
theorem a_byv {w pairs : Wt} (pn : pairs ≠ []) (pd : (pairs.map (·.1)).Nodup) (hb : ∀ q ∈ w, q.1 ∈ pairs.map (·.1)) : ∀ k, k ≤ pl "_by_values" → ap (Gk k) "_by_values" [spD w, rowsD pairs] = some (wD pairs) := by
  refine at_ rfl rfl ?_
  refine run_of (ρ := [.fz (spD w), .fz (rowsD pairs), .un, .un, .un, .un]) rfl rfl ?_
  unfold K03.f__by_values K03.b__by_values
  have c1 := a_pairs (pairs.map fun q => (PyData.int q.1, PyData.int q.2)) _ (show pl "_by_values" + 1 ≤ pl "are_pairs" by decide +kernel)
  rw [List.map_map] at c1
  have c1 : ap (Gk (pl "_by_values" + 1)) "are_pairs" [rowsD pairs] = some (.bool true) := c1
  have c2 := ev_all (G := Gk (pl "_by_values" + 1)) (own := [3]) (e := .call "is_value" (.cons (.ix (.v 3) (.int 0)) .nil)) (p := .v 3) (it := .seq (.v 1)) (ρ := [.fz (spD w), .fz (rowsD pairs), .un, .un, .un, .un]) (g := prD) (bs := pairs) rfl fun b hb' => by
    have f1 := a_val b.1 _ (show pl "_by_values" + 1 ≤ pl "is_value" by decide +kernel)
    unfold stepL
    simp [-List.map_map, xcall, xv, xnon, xbl, xint, xstr, xg, xop, xcmp, xchain, xisN, xnotN, xand, xor, xnot, xite, xbi, xisi, xtup, xlst, xix, xsl, xrev, xget, xlvals, xoget, xolen, evs, evO, evC, evS, evSs, evR, bindP, unpD, freeze, wipeE, En.get, En.own, asB, asI, isNo, f1, pr0]
  rw [evSs_nx (ρ' := [.fz (spD w), .fz (rowsD pairs), .un, .un, .un, .un]) (by simp [-List.map_map, xcall, xv, xnon, xbl, xint, xstr, xg, xop, xcmp, xchain, xisN, xnotN, xand, xor, xnot, xite, xbi, xisi, xtup, xlst, xix, xsl, xrev, xget, xlvals, xoget, xolen, evs, evO, evC, evS, evSs, evR, bindP, unpD, freeze, wipeE, En.get, En.own, asB, asI, isNo, c1, c2])]
  have c3 := dict_rows (T := (Gk (pl "_by_values" + 1)).tups) pn pd
  rw [evSs_nx (ρ' := [.fz (spD w), .fz (rowsD pairs), .fz (wD pairs), .un, .un, .un]) (by simp [-List.map_map, xcall, xv, xnon, xbl, xint, xstr, xg, xop, xcmp, xchain, xisN, xnotN, xand, xor, xnot, xite, xbi, xisi, xtup, xlst, xix, xsl, xrev, xget, xlvals, xoget, xolen, evs, evO, evC, evS, evSs, evR, bindP, unpD, freeze, wipeE, En.get, En.own, asB, asI, isNo, c3])]
  have c4 := len_dict_ev (T := (Gk (pl "_by_values" + 1)).tups) pairs
  have c5 : biD (Gk (pl "_by_values" + 1)).tups .len [rowsD pairs] = some (.int pairs.length) := by simp [biD, rowsD]
  have c6 : cmpD (Gk (pl "_by_values" + 1)).tups .lt (.int (pairs.length : Int)) (.int (pairs.length : Int)) = some false := by simp [cmpD, ltD]
  have c7 := ev_all (G := Gk (pl "_by_values" + 1)) (own := [4, 5]) (e := .cmp .isin (.v 4) (.v 2)) (p := .cons (.v 4) (.cons (.v 5) .nil)) (it := .seq (.ix (.v 0) (.int 1))) (ρ := [.fz (spD w), .fz (rowsD pairs), .fz (wD pairs), .un, .un, .un]) (g := prD) (bs := w) rfl fun b hb' => by
    obtain ⟨v, hv⟩ := lookup_of_mem (hb b hb')
    have f1 : cmpD (Gk (pl "_by_values" + 1)).tups .isin (.int b.1) (wD pairs) = some true := by
      simp only [cmpD, wD, getK_ints, wk_lookup, hv, Option.map_some, Option.isSome_some]
    unfold stepL prD
    simp [-List.map_map, xcall, xv, xnon, xbl, xint, xstr, xg, xop, xcmp, xchain, xisN, xnotN, xand, xor, xnot, xite, xbi, xisi, xtup, xlst, xix, xsl, xrev, xget, xlvals, xoget, xolen, evs, evO, evC, evS, evSs, evR, bindP, unpD, freeze, wipeE, En.get, En.own, asB, asI, isNo, f1]
  rw [evSs_nx (ρ' := [.fz (spD w), .fz (rowsD pairs), .fz (wD pairs), .un, .un, .un]) (by simp [-List.map_map, xcall, xv, xnon, xbl, xint, xstr, xg, xop, xcmp, xchain, xisN, xnotN, xand, xor, xnot, xite, xbi, xisi, xtup, xlst, xix, xsl, xrev, xget, xlvals, xoget, xolen, evs, evO, evC, evS, evSs, evR, bindP, unpD, freeze, wipeE, En.get, En.own, asB, asI, isNo, c4, c5, c6, c7])]
  refine evSs_rt ?_
  simp [-List.map_map, xcall, xv, xnon, xbl, xint, xstr, xg, xop, xcmp, xchain, xisN, xnotN, xand, xor, xnot, xite, xbi, xisi, xtup, xlst, xix, xsl, xrev, xget, xlvals, xoget, xolen, evs, evO, evC, evS, evSs, evR, bindP, unpD, freeze, wipeE, En.get, En.own, asB, asI, isNo]
theorem a_mapped {w pairs : Wt} {M : Nat} (hM : 0 < M) (hM1 : M < 2 ^ 64) (s : Sp w M) (pn : pairs ≠ []) (pd : (pairs.map (·.1)).Nodup) (pk : ∀ q ∈ pairs, 0 ≤ q.2 ∧ q.2 < (60 : Nat)) (hb : ∀ q ∈ w, q.1 ∈ pairs.map (·.1)) :
    ∃ w', Sp w' M ∧ (∀ k, pr w' k = smR 60 fun j => if valW pairs j = k then pr w j else 0) ∧ ∀ k, k ≤ pl "mapped" → ap (Gk k) "mapped" [spD w, rowsD pairs] = some (spD w') := by
  have hL : ∀ q ∈ wS (w.map fun q => (valW pairs q.1, q.2)), 0 ≤ q.1 ∧ q.1 < (60 : Nat) := fun q hq => by
    obtain ⟨x, hx, e⟩ := List.mem_map.mp hq
    obtain ⟨y, hy, e2⟩ := List.mem_map.mp hx
    subst e2
    subst e
    obtain ⟨v, hv⟩ := lookup_of_mem (hb y hy)
    have : valW pairs y.1 = v := by unfold valW; rw [hv]; rfl
    simp only [this]
    exact pk _ ((lookup_mem_iff pd).mp hv)
  have eS := wS_adds (w.map fun q => (valW pairs q.1, q.2)) []
  generalize hacc : addsW (w.map fun q => (valW pairs q.1, q.2)) [] = acc at eS
  have nd : (acc.map (·.1)).Nodup := by
    rw [← wS_keys, eS]
    exact adds_nd _ (by simp [wS])
  have ks : ∀ k : Int, k ∈ acc.map (·.1) → 0 ≤ k ∧ k < (60 : Nat) := by
    rw [← wS_keys, eS]
    exact adds_keys (P := fun k => 0 ≤ k ∧ k < (60 : Nat)) _ hL (by simp [wS])
  have hv : ∀ k, (valW acc k : Rat) = sumAt (wS (w.map fun q => (valW pairs q.1, q.2))) k := fun k => by
    rw [← wS_val, eS, adds_val]
    show (0 : Rat) + _ = _
    grind
  have ht : tot acc = tot w := by
    have : (tot acc : Rat) = (tot w : Rat) := by
      rw [← wS_tot, eS, adds_tot _ (by simp [wS]), wS_tot, wS_tot]
      have e2 : tot (w.map fun q => (valW pairs q.1, q.2)) = tot w := by
        unfold tot
        rw [List.map_map]
        rfl
      rw [e2]
      have e3 : tot [] = 0 := rfl
      rw [e3]
      push_cast
      grind
    exact_mod_cast this
  have nn : ∀ q ∈ acc, 0 ≤ q.2 := fun q hq => by
    have h1 := (lookup_mem_iff nd (k := q.1) (v := q.2)).mpr hq
    have h2 : valW acc q.1 = q.2 := by unfold valW; rw [h1]; rfl
    have h3 := hv q.1
    rw [h2] at h3
    have h4 : (0 : Rat) ≤ (q.2 : Rat) := by
      rw [h3]
      refine sum_nn fun y hy => ?_
      obtain ⟨x, hx, e⟩ := List.mem_map.mp hy
      obtain ⟨z, hz, e2⟩ := List.mem_map.mp hx
      obtain ⟨u, hu, e3⟩ := List.mem_map.mp hz
      subst e
      have := s.vs.pos u hu
      subst e3
      subst e2
      simp only
      split
      · exact_mod_cast (show (0 : Int) ≤ u.2 by omega)
      · decide
    exact_mod_cast h4
  obtain ⟨sp, hp, hq⟩ := nrm_sp nd ks nn (by rw [ht]; exact s.vs.tp) (by rw [ht]; exact s.dv)
  have vb : ∀ q ∈ acc, q.2.natAbs < 2 ^ 64 := fun q hq' => by
    have h0 := nn q hq'
    have : ∀ l : Wt, (∀ q ∈ l, 0 ≤ q.2) → ∀ q ∈ l, q.2 ≤ tot l := by
      intro l
      induction l with
      | nil => intro _ q h; cases h
      | cons x r ih =>
        intro h q hq
        have h0 := h x List.mem_cons_self
        have h1 : ∀ y ∈ r, 0 ≤ y.2 := fun y hy => h y (List.mem_cons_of_mem _ hy)
        have h2 : 0 ≤ tot r := by
          clear ih hq h
          induction r with
          | nil => simp [tot]
          | cons y r ih =>
            have a := h1 y List.mem_cons_self
            have b := ih fun z hz => h1 z (List.mem_cons_of_mem _ hz)
            simp only [tot, List.map_cons, List.sum_cons] at b ⊢
            omega
        have e2 : tot (x :: r) = x.2 + tot r := by simp only [List.map_cons, tot, List.sum_cons]
        rcases List.mem_cons.mp hq with e | e
        · subst e; omega
        · have := ih h1 q e
          omega
    have h1 := this acc nn q hq'
    rw [ht] at h1
    have h2 := Nat.le_of_dvd hM s.dv
    have h3 := s.vs.tp
    omega
  refine ⟨nrm acc, sp, fun k => ?_, at_ rfl rfl ?_⟩
  · rw [hp, hv, ht]
    have t0 := s.vs.t0
    have e1 : sumAt (wS (w.map fun q => (valW pairs q.1, q.2))) k = ((tot w : Int) : Rat) * ((rwS w).map fun q => if valW pairs q.1 = k then q.2 else 0).sum := by
      rw [← sum_mul_r]
      unfold sumAt wS rwS
      rw [List.map_map, List.map_map, List.map_map]
      congr 1
      refine List.map_congr_left fun q hq => ?_
      simp only [Function.comp]
      split
      · rw [Rat.mkRat_eq_div, s.vs.tr]
        grind
      · grind
    rw [e1]
    have e2 : ((rwS w).map fun q => if valW pairs q.1 = k then q.2 else 0).sum = smR 60 fun j => if valW pairs j = k then pr w j else 0 := by
      have e3 : ((rwS w).map fun q => if valW pairs q.1 = k then q.2 else 0) = ((rwS w).map fun q => (q.1, if valW pairs q.1 = k then pr w q.1 else 0)).map (·.2) := by
        rw [List.map_map]
        refine List.map_congr_left fun q hq => ?_
        simp only [Function.comp, rwS_pr s.vs q hq]
      rw [e3, ← smR_keys (n := 60) (fun _ _ r => r) _ (fun q hq => by
        obtain ⟨x, hx, e⟩ := List.mem_map.mp hq
        subst e
        exact s.ks x.1 (by rw [← rwS_keys]; exact List.mem_map_of_mem hx))]
      refine smR_congr fun j _ _ => ?_
      have nd : (((rwS w).map fun q => (q.1, if valW pairs q.1 = k then pr w q.1 else 0)).map (·.1)).Nodup := by
        rw [List.map_map]
        show ((rwS w).map (·.1)).Nodup
        rw [rwS_keys]
        exact s.vs.nd
      have h1 := sumAt_val nd j
      unfold sumAt at h1
      rw [h1]
      by_cases hj : j ∈ w.map (·.1)
      · have hk : j ∈ (((rwS w).map fun q => (q.1, if valW pairs q.1 = k then pr w q.1 else 0)).map (·.1)) := by
          rw [List.map_map]
          show j ∈ (rwS w).map (·.1)
          rw [rwS_keys]
          exact hj
        obtain ⟨x, hx, e⟩ := List.mem_map.mp (valS_mem hk)
        have e1 := congrArg Prod.fst e
        have e2 := congrArg Prod.snd e
        simp only at e1 e2
        rw [← e2, e1]
      · rw [valS_none (by
          rw [List.map_map]
          show j ∉ (rwS w).map (·.1)
          rw [rwS_keys]
          exact hj), pr_none hj]
        split <;> rfl
    rw [e2]
    grind
  · have c1 := a_check s.vs _ (show pl "mapped" + 1 ≤ pl "check_spread" by decide +kernel)
    have c2 := a_byv pn pd hb _ (show pl "mapped" + 1 ≤ pl "_by_values" by decide +kernel)
    refine run_of (ρ := [.fz (spD w), .fz (rowsD pairs), .un, .un, .un, .un, .un]) rfl rfl ?_
    unfold K03.f_mapped K03.b_mapped
    rw [evSs_nx (ρ' := [.fz (spD w), .fz (rowsD pairs), .un, .un, .un, .un, .un]) (by simp [-List.map_map, xcall, xv, xnon, xbl, xint, xstr, xg, xop, xcmp, xchain, xisN, xnotN, xand, xor, xnot, xite, xbi, xisi, xtup, xlst, xix, xsl, xrev, xget, xlvals, xoget, xolen, evs, evO, evC, evS, evSs, evR, bindP, unpD, freeze, wipeE, En.get, En.own, asB, asI, isNo, c1])]
    rw [evSs_nx (ρ' := [.fz (spD w), .fz (rowsD pairs), .fz (wD pairs), .un, .un, .un, .un]) (by simp [-List.map_map, xcall, xv, xnon, xbl, xint, xstr, xg, xop, xcmp, xchain, xisN, xnotN, xand, xor, xnot, xite, xbi, xisi, xtup, xlst, xix, xsl, xrev, xget, xlvals, xoget, xolen, evs, evO, evC, evS, evSs, evR, bindP, unpD, freeze, wipeE, En.get, En.own, asB, asI, isNo, c2])]
    have c3 := ev_all (G := Gk (pl "mapped" + 1)) (own := [6]) (e := .call "is_value" (.cons (.v 6) .nil)) (p := .v 6) (it := .vals (.v 2)) (ρ := [.fz (spD w), .fz (rowsD pairs), .fz (wD pairs), .un, .un, .un, .un]) (g := PyData.int) (bs := pairs.map (·.2)) (by unfold evI; simp [-List.map_map, xcall, xv, xnon, xbl, xint, xstr, xg, xop, xcmp, xchain, xisN, xnotN, xand, xor, xnot, xite, xbi, xisi, xtup, xlst, xix, xsl, xrev, xget, xlvals, xoget, xolen, evs, evO, evC, evS, evSs, evR, bindP, unpD, freeze, wipeE, En.get, En.own, asB, asI, isNo, vals_wD]) fun b _ => by
      have f1 := a_val b _ (show pl "mapped" + 1 ≤ pl "is_value" by decide +kernel)
      unfold stepL
      simp [-List.map_map, xcall, xv, xnon, xbl, xint, xstr, xg, xop, xcmp, xchain, xisN, xnotN, xand, xor, xnot, xite, xbi, xisi, xtup, xlst, xix, xsl, xrev, xget, xlvals, xoget, xolen, evs, evO, evC, evS, evSs, evR, bindP, unpD, freeze, wipeE, En.get, En.own, asB, asI, isNo, f1]
    have c4 := a_sort (pairs.map (·.2)) _ (show pl "mapped" + 1 ≤ pl "are_of_one_sort" by decide +kernel)
    rw [evSs_nx (ρ' := [.fz (spD w), .fz (rowsD pairs), .fz (wD pairs), .un, .un, .un, .un]) (by simp [-List.map_map, xcall, xv, xnon, xbl, xint, xstr, xg, xop, xcmp, xchain, xisN, xnotN, xand, xor, xnot, xite, xbi, xisi, xtup, xlst, xix, xsl, xrev, xget, xlvals, xoget, xolen, evs, evO, evC, evS, evSs, evR, bindP, unpD, freeze, wipeE, En.get, En.own, asB, asI, isNo, c3, c4, lvals_wD])]
    rw [evSs_nx (ρ' := [.fz (spD w), .fz (rowsD pairs), .fz (wD pairs), .ow (wD []), .un, .un, .un]) (by rfl)]
    obtain ⟨t4, t5, h⟩ := map_loop pairs (.fz (spD w)) (.fz (rowsD pairs)) w hb pd [] .un .un .un (by have := s.len; simp; omega)
    have it : evI (Gk (pl "mapped" + 1)) (.seq (.ix (.v 0) (.int 1))) [.fz (spD w), .fz (rowsD pairs), .fz (wD pairs), .ow (wD []), .un, .un, .un] = some (w.map prD) := by rfl
    rw [evSs_nx (evS_for it h), hacc]
    have len : acc.length ≤ 60 := by simpa using len_of_nd 60 nd ks
    have c5 := a_sow acc nd (by omega) hq (fun q hq => Nat.lt_trans (vb q hq) (by decide)) _ (show pl "mapped" + 1 ≤ pl "spread_of_weights" by decide +kernel)
    refine evSs_rt ?_
    simp [-List.map_map, xcall, xv, xnon, xbl, xint, xstr, xg, xop, xcmp, xchain, xisN, xnotN, xand, xor, xnot, xite, xbi, xisi, xtup, xlst, xix, xsl, xrev, xget, xlvals, xoget, xolen, evs, evO, evC, evS, evSs, evR, bindP, unpD, freeze, wipeE, En.get, En.own, asB, asI, isNo, c5]
end PL


set_option Elab.async false
set_option linter.all false
set_option maxRecDepth 100000
set_option exponentiation.threshold 20000
/-! MY: the greatest ratio, where the other one has all values of the one. -/
namespace PL
open PySem
theorem mkRat_ratio {a b c d : Int} (hb : 0 < b) (hc : 0 < c) (hd : 0 < d) : mkRat (a * d) (c * b).toNat = ((a : Rat) / (b : Rat)) / ((c : Rat) / (d : Rat)) := by
  have hbn : (b : Rat) ≠ 0 := by exact_mod_cast (Int.ne_of_gt hb)
  have hcn : (c : Rat) ≠ 0 := by exact_mod_cast (Int.ne_of_gt hc)
  have hdn : (d : Rat) ≠ 0 := by exact_mod_cast (Int.ne_of_gt hd)
  have h0 : 0 ≤ c * b := Int.le_of_lt (Int.mul_pos hc hb)
  rw [Rat.mkRat_eq_div]
  have e : (((c * b).toNat : Nat) : Rat) = (c : Rat) * (b : Rat) := by
    rw [← Rat.intCast_natCast, Int.toNat_of_nonneg h0, Rat.intCast_mul]
  rw [e, Rat.intCast_mul]
  grind
def rtR (two : Wt) (q : Int × Rat) : Int × Rat := (q.1, q.2 / pr two q.1)
/-- the ratios -/
def rtS (one two : Wt) : Sh := (rwS one).map (rtR two)
theorem tot_bd {w : Wt} {M : Nat} (hM : 0 < M) (s : Sp w M) : 0 < tot w ∧ (tot w).natAbs ≤ M := by
  have h1 := s.vs.tp
  have h2 := Nat.le_of_dvd hM s.dv
  omega
theorem mem_le_tot {w : Wt} (v : Vs w) {q : Int × Int} (hq : q ∈ w) : 1 ≤ q.2 ∧ q.2 ≤ tot w := by
  refine ⟨v.pos q hq, ?_⟩
  have h := pr_le v q.1
  rw [← pr_mem v hq, Rat.mkRat_eq_div, v.tr] at h
  have ht : (0 : Rat) < ((tot w : Int) : Rat) := by have := v.tp; exact_mod_cast this
  have h2 : (q.2 : Rat) ≤ (tot w : Rat) := by
    have := Rat.mul_le_mul_of_nonneg_right h (Rat.le_of_lt ht)
    have t0 := v.t0
    have e : (q.2 : Rat) / (tot w : Rat) * (tot w : Rat) = q.2 := by grind
    rw [e] at this
    grind
  exact_mod_cast h2
theorem rt_loop {M1 M2 : Nat} (h1 : 0 < M1) (h2 : 0 < M2) (hM1 : M1 < 2 ^ 64) (hM2 : M2 < 2 ^ 64) {one two : Wt} (s1 : Sp one M1) (s2 : Sp two M2) (sub : ∀ q ∈ one, q.1 ∈ two.map (·.1)) (bs : Wt) (hb : ∀ q ∈ bs, q ∈ one) (acc : Sh) (x4 x5 : Sl) (nd : ((acc.map (·.1)) ++ bs.map (·.1)).Nodup) (len : acc.length + bs.length ≤ 100) :
    ∃ t4 t5, forL (fun d ρ1 => (bindP (.cons (.v 4) (.cons (.v 5) .nil)) d ρ1).bind fun ρ2 => evSs (Gk (pl "ratios_of" + 1)) (.cons (.ife (.cmp .isin (.v 4) (.v 2)) (.cons (.put 3 (.v 4) (.call "least_pair" (.cons (.op .mul (.v 5) (.ix (.v 1) (.int 0))) (.cons (.op .mul (.ix (.v 2) (.v 4)) (.ix (.v 0) (.int 0))) .nil)))) .nil) (.cons (.put 3 (.v 4) .non) .nil)) .nil) ρ2)
      (bs.map prD) [.fz (spD one), .fz (spD two), .fz (wD two), .ow (sD acc), x4, x5] = some (.nx [.fz (spD one), .fz (spD two), .fz (wD two), .ow (sD (acc ++ bs.map fun q => (q.1, pr one q.1 / pr two q.1))), t4, t5]) := by
  induction bs generalizing acc x4 x5 with
  | nil => exact ⟨x4, x5, by simp [forL]⟩
  | cons q r ih =>
    have hq := hb q List.mem_cons_self
    have hr : ∀ x ∈ r, x ∈ one := fun x hx => hb x (List.mem_cons_of_mem _ hx)
    obtain ⟨v, hv⟩ := lookup_of_mem (sub q hq)
    have hv2 : (q.1, v) ∈ two := (lookup_mem_iff s2.vs.nd).mp hv
    obtain ⟨t1, u1⟩ := tot_bd h1 s1
    obtain ⟨t2, u2⟩ := tot_bd h2 s2
    obtain ⟨p1, p2⟩ := mem_le_tot s1.vs hq
    obtain ⟨p3, p4⟩ := mem_le_tot s2.vs hv2
    simp only at p3 p4
    have m1 : opD .mul (.int q.2) (.int (tot two)) = some (.int (q.2 * tot two)) := mul_ok (n := 64) (m := 64) (by omega) (by omega) (by decide) (by decide) (by decide)
    have m2 : opD .mul (.int v) (.int (tot one)) = some (.int (v * tot one)) := mul_ok (n := 64) (m := 64) (by omega) (by omega) (by decide) (by decide) (by decide)
    have mp : 0 < v * tot one := Int.mul_pos (by omega) t1
    have ml : (v * tot one).natAbs < 2 ^ 128 := natAbs_mul_lt (n := 64) (m := 64) (by omega) (by omega)
    have c1 := a_lp (q.2 * tot two) (v * tot one).toNat (by omega) (Nat.lt_of_lt_of_le (show (v * tot one).toNat < 2 ^ 128 by omega) (Nat.pow_le_pow_right (by decide) (by decide))) _ (show pl "ratios_of" + 1 ≤ pl "least_pair" by decide +kernel)
    rw [Int.toNat_of_nonneg (Int.le_of_lt mp), mkRat_ratio t1 (by omega) t2] at c1
    have ep1 : pr one q.1 = (q.2 : Rat) / (tot one : Rat) := by rw [← pr_mem s1.vs hq, Rat.mkRat_eq_div, s1.vs.tr]
    have ep2 : pr two q.1 = (v : Rat) / (tot two : Rat) := by rw [← pr_mem s2.vs hv2, Rat.mkRat_eq_div, s2.vs.tr]
    rw [← ep1, ← ep2] at c1
    have c2 : cmpD (Gk (pl "ratios_of" + 1)).tups .isin (.int q.1) (wD two) = some true := by
      simp only [cmpD, wD, getK_ints, wk_lookup, hv, Option.map_some, Option.isSome_some]
    have c3 : ixD (Gk (pl "ratios_of" + 1)).tups (wD two) (.int q.1) = some (.int v) := by
      simp only [ixD, wD, getK_ints, wk_lookup, hv, Option.map_some, Option.bind_some, id]
    have hk : q.1 ∉ acc.map (·.1) := by
      rw [List.map_cons] at nd
      intro h
      exact (List.nodup_append.mp nd).2.2 q.1 h q.1 List.mem_cons_self rfl
    have c4 : dputD (Gk (pl "ratios_of" + 1)).tups (sD acc) (.int q.1) (fr (pr one q.1 / pr two q.1)) = some (sD (acc ++ [(q.1, pr one q.1 / pr two q.1)])) := by
      unfold sD
      rw [dput_ints (by simp [sk] at len ⊢; omega), sk_put, put_end hk]
    rw [List.map_cons, forL_cons]
    have step : (bindP (.cons (.v 4) (.cons (.v 5) .nil)) (prD q) [.fz (spD one), .fz (spD two), .fz (wD two), .ow (sD acc), x4, x5]).bind (fun ρ2 => evSs (Gk (pl "ratios_of" + 1)) (.cons (.ife (.cmp .isin (.v 4) (.v 2)) (.cons (.put 3 (.v 4) (.call "least_pair" (.cons (.op .mul (.v 5) (.ix (.v 1) (.int 0))) (.cons (.op .mul (.ix (.v 2) (.v 4)) (.ix (.v 0) (.int 0))) .nil)))) .nil) (.cons (.put 3 (.v 4) .non) .nil)) .nil) ρ2) = some (.nx [.fz (spD one), .fz (spD two), .fz (wD two), .ow (sD (acc ++ [(q.1, pr one q.1 / pr two q.1)])), .fz (.int q.1), .fz (.int q.2)]) := by
      unfold prD
      simp [-List.map_map, xcall, xv, xnon, xbl, xint, xstr, xg, xop, xcmp, xchain, xisN, xnotN, xand, xor, xnot, xite, xbi, xisi, xtup, xlst, xix, xsl, xrev, xget, xlvals, xoget, xolen, evs, evO, evC, evS, evSs, evR, bindP, unpD, freeze, wipeE, En.get, En.own, asB, asI, isNo, c1, c2, c3, c4, m1, m2, ix_spD0]
    rw [step, Option.bind_some]
    obtain ⟨t4, t5, h⟩ := ih hr (acc ++ [(q.1, pr one q.1 / pr two q.1)]) (.fz (.int q.1)) (.fz (.int q.2)) (by
      simp only [List.map_append, List.map_cons, List.map_nil, List.append_assoc, List.cons_append, List.nil_append] at nd ⊢
      exact nd) (by simp at len ⊢; omega)
    exact ⟨t4, t5, Eq.trans h (by simp)⟩
theorem rt_same {one two : Wt} (v : Vs one) : (one.map fun q => (q.1, pr one q.1 / pr two q.1)) = rtS one two := by
  unfold rtS rwS
  rw [List.map_map]
  refine List.map_congr_left fun q hq => ?_
  simp only [Function.comp, rtR, pr_mem v hq]
theorem a_ratios {M1 M2 : Nat} (h1 : 0 < M1) (h2 : 0 < M2) (hM1 : M1 < 2 ^ 64) (hM2 : M2 < 2 ^ 64) {one two : Wt} (s1 : Sp one M1) (s2 : Sp two M2) (sub : ∀ q ∈ one, q.1 ∈ two.map (·.1)) : ∀ k, k ≤ pl "ratios_of" → ap (Gk k) "ratios_of" [spD one, spD two] = some (sD (rtS one two)) := by
  refine at_ rfl rfl ?_
  refine run_of (ρ := [.fz (spD one), .fz (spD two), .un, .un, .un, .un]) rfl rfl ?_
  unfold K03.f_ratios_of K03.b_ratios_of
  have c1 := dict_rows (T := (Gk (pl "ratios_of" + 1)).tups) s2.vs.ne s2.vs.nd
  rw [evSs_nx (ρ' := [.fz (spD one), .fz (spD two), .fz (wD two), .ow (sD []), .un, .un]) (by simp [-List.map_map, xcall, xv, xnon, xbl, xint, xstr, xg, xop, xcmp, xchain, xisN, xnotN, xand, xor, xnot, xite, xbi, xisi, xtup, xlst, xix, xsl, xrev, xget, xlvals, xoget, xolen, evs, evO, evC, evS, evSs, evR, bindP, unpD, freeze, wipeE, En.get, En.own, asB, asI, isNo, c1, ix_spD]; rfl)]
  obtain ⟨t4, t5, h⟩ := rt_loop h1 h2 hM1 hM2 s1 s2 sub one (fun q hq => hq) [] .un .un (by simpa using s1.vs.nd) (by have := s1.len; simp; omega)
  have it : evI (Gk (pl "ratios_of" + 1)) (.seq (.ix (.v 0) (.int 1))) [.fz (spD one), .fz (spD two), .fz (wD two), .ow (sD []), .un, .un] = some (one.map prD) := by rfl
  rw [evSs_nx (evS_for it h), List.nil_append, rt_same s1.vs]
  refine evSs_rt ?_
  simp [-List.map_map, xcall, xv, xnon, xbl, xint, xstr, xg, xop, xcmp, xchain, xisN, xnotN, xand, xor, xnot, xite, xbi, xisi, xtup, xlst, xix, xsl, xrev, xget, xlvals, xoget, xolen, evs, evO, evC, evS, evSs, evR, bindP, unpD, freeze, wipeE, En.get, En.own, asB, asI, isNo]
def mxR (a b : Rat) : Rat := if a < b then b else a
def RtQ (one two : Wt) : Rat := ((rtS one two).map (·.2)).foldl mxR 0
theorem mx_le : ∀ (l : List Rat) (a : Rat), a ≤ l.foldl mxR a ∧ (∀ r ∈ l, r ≤ l.foldl mxR a) ∧ (l.foldl mxR a = a ∨ l.foldl mxR a ∈ l)
  | [], a => ⟨Rat.le_refl, nofun, .inl rfl⟩
  | x :: t, a => by
    obtain ⟨h1, h2, h3⟩ := mx_le t (mxR a x)
    have ha : a ≤ mxR a x := by unfold mxR; split <;> grind
    have hx : x ≤ mxR a x := by unfold mxR; split <;> grind
    rw [List.foldl_cons]
    refine ⟨Rat.le_trans ha h1, fun r hr => ?_, ?_⟩
    · rcases List.mem_cons.mp hr with e | e
      · subst e; exact Rat.le_trans hx h1
      · exact h2 r e
    · rcases h3 with e | e
      · rw [e]
        unfold mxR
        split
        · exact .inr List.mem_cons_self
        · exact .inl rfl
      · exact .inr (List.mem_cons_of_mem _ e)
theorem rt_mem {one two : Wt} (v : Vs one) {r : Rat} : r ∈ (rtS one two).map (·.2) ↔ ∃ k ∈ one.map (·.1), r = pr one k / pr two k := by
  rw [← rt_same v, List.map_map, List.mem_map]
  constructor
  · rintro ⟨q, hq, e⟩
    exact ⟨q.1, List.mem_map_of_mem hq, e.symm⟩
  · rintro ⟨k, hk, e⟩
    obtain ⟨q, hq, e2⟩ := List.mem_map.mp hk
    subst e2
    exact ⟨q, hq, e.symm⟩
/-- the greatest ratio bounds, and is met -/
theorem Rt_spec {one two : Wt} {M1 M2 : Nat} (s1 : Sp one M1) (s2 : Sp two M2) (sub : ∀ q ∈ one, q.1 ∈ two.map (·.1)) : 0 ≤ RtQ one two ∧ (∀ k, pr one k ≤ RtQ one two * pr two k) ∧ ∃ k ∈ one.map (·.1), pr one k = RtQ one two * pr two k := by
  obtain ⟨h1, h2, h3⟩ := mx_le ((rtS one two).map (·.2)) 0
  have sub' : ∀ k ∈ one.map (·.1), k ∈ two.map (·.1) := fun k hk => by
    obtain ⟨q, hq, e⟩ := List.mem_map.mp hk
    exact e ▸ sub q hq
  have back : ∀ k ∈ one.map (·.1), pr one k / pr two k * pr two k = pr one k := fun k hk => by
    have := pr_pos s2.vs (sub' k hk)
    grind
  refine ⟨h1, fun k => ?_, ?_⟩
  · by_cases hk : k ∈ one.map (·.1)
    · have := h2 _ ((rt_mem s1.vs).mpr ⟨k, hk, rfl⟩)
      rw [← back k hk]
      exact Rat.mul_le_mul_of_nonneg_right this (pr_nn s2.vs k)
    · rw [pr_none hk]
      exact Rat.mul_nonneg h1 (pr_nn s2.vs k)
  · rcases h3 with e | e
    · exfalso
      obtain ⟨q, r, eq⟩ := List.exists_cons_of_ne_nil s1.vs.ne
      have hk : q.1 ∈ one.map (·.1) := by rw [eq]; exact List.mem_cons_self
      have := h2 _ ((rt_mem s1.vs).mpr ⟨q.1, hk, rfl⟩)
      rw [e] at this
      have := div_pos' (pr_pos s1.vs hk) (pr_pos s2.vs (sub' _ hk))
      grind
    · obtain ⟨k, hk, e2⟩ := (rt_mem s1.vs).mp e
      refine ⟨k, hk, ?_⟩
      show _ = List.foldl mxR 0 _ * _
      rw [e2, back k hk]
theorem gr_loop {G : Gb} (hg : ∀ r s : Rat, Sm r → Sm s → ap G "greater_of" [fr r, fr s] = some (fr (mxR r s))) (x0 x1 : Sl) : ∀ (l : List Rat) (a : Rat) (x3 : Sl), Sm a → (∀ r ∈ l, Sm r) → ∃ t3, forL (fun d ρ1 => (bindP (.v 3) d ρ1).bind fun ρ2 => evSs G (.cons (.ife (.isN (.v 3)) (.cons (.ret .non) .nil) .nil) (.cons (.asg (.v 2) (.call "greater_of" (.cons (.v 2) (.cons (.v 3) .nil)))) .nil)) ρ2) (l.map fr) [x0, x1, .fz (fr a), x3] = some (.nx [x0, x1, .fz (fr (l.foldl mxR a)), t3])
  | [], a, x3, _, _ => ⟨x3, rfl⟩
  | r :: l, a, x3, sa, sl => by
    have sr := sl r List.mem_cons_self
    have e := hg a r sa sr
    have sm : Sm (mxR a r) := by unfold mxR; split <;> assumption
    obtain ⟨t3, h⟩ := gr_loop hg x0 x1 l (mxR a r) (.fz (fr r)) sm fun y hy => sl y (List.mem_cons_of_mem _ hy)
    refine ⟨t3, ?_⟩
    rw [List.map_cons, forL_cons]
    have nn : isNo (fr r) = false := rfl
    have step : (bindP (.v 3) (fr r) [x0, x1, .fz (fr a), x3]).bind (fun ρ2 => evSs G (.cons (.ife (.isN (.v 3)) (.cons (.ret .non) .nil) .nil) (.cons (.asg (.v 2) (.call "greater_of" (.cons (.v 2) (.cons (.v 3) .nil)))) .nil)) ρ2) = some (.nx [x0, x1, .fz (fr (mxR a r)), .fz (fr r)]) := by
      unfold fr at e nn ⊢
      simp [-List.map_map, xcall, xv, xnon, xbl, xint, xstr, xg, xop, xcmp, xchain, xisN, xnotN, xand, xor, xnot, xite, xbi, xisi, xtup, xlst, xix, xsl, xrev, xget, xlvals, xoget, xolen, evs, evO, evC, evS, evSs, evR, bindP, unpD, freeze, wipeE, En.get, En.own, asB, asI, isNo, e]
    rw [step, Option.bind_some]
    exact h
theorem a_greater {r s : Rat} (hr : Sm r) (hs : Sm s) : ∀ k, k ≤ pl "greater_of" → ap (Gk k) "greater_of" [fr r, fr s] = some (fr (mxR r s)) := at_ rfl rfl (greater_of_ok (fun r s hr hs => kn_of (a_less hr hs _ (by decide +kernel))) hr hs)
theorem a_ratioby {M1 M2 : Nat} (h1 : 0 < M1) (h2 : 0 < M2) (hM1 : M1 < 2 ^ 64) (hM2 : M2 < 2 ^ 64) {one two : Wt} (s1 : Sp one M1) (s2 : Sp two M2) (sub : ∀ q ∈ one, q.1 ∈ two.map (·.1)) : ∀ k, k ≤ pl "ratio_by" → ap (Gk k) "ratio_by" [spD one, spD two] = some (fr (RtQ one two)) := by
  refine at_ rfl rfl ?_
  refine run_of (ρ := [.fz (spD one), .fz (spD two), .un, .un]) rfl rfl ?_
  unfold K03.f_ratio_by K03.b_ratio_by
  have c1 := a_ratios h1 h2 hM1 hM2 s1 s2 sub _ (show pl "ratio_by" + 1 ≤ pl "ratios_of" by decide +kernel)
  rw [evSs_nx (ρ' := [.fz (spD one), .fz (spD two), .fz (fr 0), .un]) (by simp [-List.map_map, xcall, xv, xnon, xbl, xint, xstr, xg, xop, xcmp, xchain, xisN, xnotN, xand, xor, xnot, xite, xbi, xisi, xtup, xlst, xix, xsl, xrev, xget, xlvals, xoget, xolen, evs, evO, evC, evS, evSs, evR, bindP, unpD, freeze, wipeE, En.get, En.own, asB, asI, isNo, cN])]
  obtain ⟨t3, h⟩ := gr_loop (G := Gk (pl "ratio_by" + 1)) (fun r s hr hs => a_greater hr hs _ (show pl "ratio_by" + 1 ≤ pl "greater_of" by decide +kernel)) (.fz (spD one)) (.fz (spD two)) ((rtS one two).map (·.2)) 0 .un sm0 (fun r hr => by
    obtain ⟨k, hk, e⟩ := (rt_mem s1.vs).mp hr
    obtain ⟨q, hq, e2⟩ := List.mem_map.mp hk
    subst e2
    obtain ⟨v, hv⟩ := lookup_of_mem (sub q hq)
    have hv2 : (q.1, v) ∈ two := (lookup_mem_iff s2.vs.nd).mp hv
    obtain ⟨t1, u1⟩ := tot_bd h1 s1
    obtain ⟨t2, u2⟩ := tot_bd h2 s2
    obtain ⟨p1, p2⟩ := mem_le_tot s1.vs hq
    obtain ⟨p3, p4⟩ := mem_le_tot s2.vs hv2
    simp only at p3 p4
    have ep1 : pr one q.1 = (q.2 : Rat) / (tot one : Rat) := by rw [← pr_mem s1.vs hq, Rat.mkRat_eq_div, s1.vs.tr]
    have ep2 : pr two q.1 = (v : Rat) / (tot two : Rat) := by rw [← pr_mem s2.vs hv2, Rat.mkRat_eq_div, s2.vs.tr]
    rw [e, ep1, ep2, ← mkRat_ratio t1 (by omega) t2]
    have n1 : (q.2 * tot two).natAbs < 2 ^ 128 := natAbs_mul_lt (n := 64) (m := 64) (by omega) (by omega)
    have n2 : (v * tot one).natAbs < 2 ^ 128 := natAbs_mul_lt (n := 64) (m := 64) (by omega) (by omega)
    exact (mkRat_sz (n := 128) n1 (by omega) (by decide)).mono (by decide))
  have it : evI (Gk (pl "ratio_by" + 1)) (.vals (.call "ratios_of" (.cons (.v 0) (.cons (.v 1) .nil)))) [.fz (spD one), .fz (spD two), .fz (fr 0), .un] = some (((rtS one two).map (·.2)).map fr) := by
    unfold evI
    simp [-List.map_map, xcall, xv, xnon, xbl, xint, xstr, xg, xop, xcmp, xchain, xisN, xnotN, xand, xor, xnot, xite, xbi, xisi, xtup, xlst, xix, xsl, xrev, xget, xlvals, xoget, xolen, evs, evO, evC, evS, evSs, evR, bindP, unpD, freeze, wipeE, En.get, En.own, asB, asI, isNo, c1, vals_sD]
    rw [List.map_map]
    rfl
  rw [evSs_nx (evS_for it h)]
  refine evSs_rt ?_
  simp [-List.map_map, xcall, xv, xnon, xbl, xint, xstr, xg, xop, xcmp, xchain, xisN, xnotN, xand, xor, xnot, xite, xbi, xisi, xtup, xlst, xix, xsl, xrev, xget, xlvals, xoget, xolen, evs, evO, evC, evS, evSs, evR, bindP, unpD, freeze, wipeE, En.get, En.own, asB, asI, isNo]
  rfl
theorem a_gratio {M1 M2 : Nat} (h1 : 0 < M1) (h2 : 0 < M2) (hM1 : M1 < 2 ^ 64) (hM2 : M2 < 2 ^ 64) {one two : Wt} (s1 : Sp one M1) (s2 : Sp two M2) (sub : ∀ q ∈ one, q.1 ∈ two.map (·.1)) : ∀ k, k ≤ pl "greatest_ratio" → ap (Gk k) "greatest_ratio" [spD one, spD two] = some (fr (RtQ one two)) := by
  refine at_ rfl rfl ?_
  have e1 := a_both s1.vs s2.vs _ (show pl "greatest_ratio" + 1 ≤ pl "_check_both" by decide +kernel)
  have e2 := a_ratioby h1 h2 hM1 hM2 s1 s2 sub _ (show pl "greatest_ratio" + 1 ≤ pl "ratio_by" by decide +kernel)
  refine run_of (ρ := [.fz (spD one), .fz (spD two)]) rfl rfl ?_
  unfold K03.f_greatest_ratio K03.b_greatest_ratio
  rw [evSs_nx (ρ' := [.fz (spD one), .fz (spD two)]) (by simp [-List.map_map, xcall, xv, xnon, xbl, xint, xstr, xg, xop, xcmp, xchain, xisN, xnotN, xand, xor, xnot, xite, xbi, xisi, xtup, xlst, xix, xsl, xrev, xget, xlvals, xoget, xolen, evs, evO, evC, evS, evSs, evR, bindP, unpD, freeze, wipeE, En.get, En.own, asB, asI, isNo, e1])]
  refine evSs_rt ?_
  simp [-List.map_map, xcall, xv, xnon, xbl, xint, xstr, xg, xop, xcmp, xchain, xisN, xnotN, xand, xor, xnot, xite, xbi, xisi, xtup, xlst, xix, xsl, xrev, xget, xlvals, xoget, xolen, evs, evO, evC, evS, evSs, evR, bindP, unpD, freeze, wipeE, En.get, En.own, asB, asI, isNo, e2]
end PL


set_option Elab.async false
set_option linter.all false
set_option maxRecDepth 100000
set_option exponentiation.threshold 20000
/-! MZ: the law's own small defs. -/
namespace PL
open PySem
/-- a loop that goes through: with what holds after so many turns -/
theorem forL_ex {step : D → En → Option Out} {P : Nat → En → Prop} : ∀ (ds : List D) (i : Nat) (ρ : En), P i ρ → (∀ j ρ d, d ∈ ds → j < i + ds.length → P j ρ → ∃ ρ', step d ρ = some (.nx ρ') ∧ P (j + 1) ρ') → ∃ ρ', forL step ds ρ = some (.nx ρ') ∧ P (i + ds.length) ρ'
  | [], i, ρ, h, _ => ⟨ρ, rfl, h⟩
  | d :: ds, i, ρ, h, k => by
    obtain ⟨ρ1, h1, h2⟩ := k i ρ d List.mem_cons_self (by simp) h
    obtain ⟨ρ2, h3, h4⟩ := forL_ex ds (i + 1) ρ1 h2 fun j ρ d hd hj => k j ρ d (List.mem_cons_of_mem _ hd) (by rw [List.length_cons]; omega)
    refine ⟨ρ2, ?_, ?_⟩
    · rw [forL_cons, h1, Option.bind_some]
      exact h3
    · rw [List.length_cons, show i + (ds.length + 1) = i + 1 + ds.length by omega]
      exact h4
theorem app_ok {dr : List Int} (h : dr.length < 1000000) (z : Int) : appD (.list (dr.map PyData.int)) (.int z) = some (.list ((dr ++ [z]).map PyData.int)) := by
  simp only [appD, List.length_map]
  rw [if_pos (by unfold szOk sizeLine; exact decide_eq_true (by omega))]
  simp
theorem mod_i {a b : Int} (h : 0 < b) : opD .mod (.int a) (.int b) = some (.int (a % b)) := if_pos h
theorem fdiv_i {a b : Int} (h : 0 < b) (h2 : b.natAbs.log2 < 9000) : opD .fdiv (.int a) (.int b) = some (.int (a / b)) := if_pos ⟨h, h2⟩
theorem i1009 (a : Int) : opD .mod (.int a) (.int 1009) = some (.int (a % 1009)) := rfl
theorem d1009 (a : Int) : opD .fdiv (.int a) (.int 1009) = some (.int (a / 1009)) := fdiv_i (by decide) (by decide)
theorem m31 (a : Int) : opD .mod (.int a) (.int 2147483647) = some (.int (a % 2147483647)) := rfl
theorem m65 (a : Int) : opD .mod (.int a) (.int 65521) = some (.int (a % 65521)) := rfl
theorem d3 (a : Int) : opD .fdiv (.int a) (.int 3) = some (.int (a / 3)) := fdiv_i (by decide) (by decide)
theorem d7 (a : Int) : opD .fdiv (.int a) (.int 7) = some (.int (a / 7)) := fdiv_i (by decide) (by decide)
theorem seed_mul {s c : Int} (h0 : 0 ≤ s) (h1 : s < 2147483647) (c0 : 0 < c) (c1 : c < 2 ^ 20) : opD .mul (.int s) (.int c) = some (.int (s * c)) := mul_ok (n := 32) (m := 20) (by omega) (by omega) (by decide) (by decide) (by decide)
theorem pow18 : opD .pow (.int 10) (.int 18) = some (.int 1000000000000000000) := by
  simp only [opD]
  rw [if_pos (by decide)]
  rfl
theorem ge_int {T : List D} (a b : Int) : cmpD T .ge (.int a) (.int b) = some (decide (b ≤ a)) := rfl
theorem gt_int {T : List D} (a b : Int) : cmpD T .gt (.int a) (.int b) = some (decide (b < a)) := rfl
theorem lt_int {T : List D} (a b : Int) : cmpD T .lt (.int a) (.int b) = some (decide (a < b)) := rfl
theorem abs_int {T : List D} (a : Int) : biD T .abs [.int a] = some (.int (if a < 0 then -a else a)) := rfl
theorem int_int {T : List D} (a : Int) : biD T .int [.int a] = some (.int a) := rfl
theorem cut_ints (l : List Int) (lo hi : Option Int) : ∃ l' : List Int, cutD (l.map PyData.int) lo hi = l'.map PyData.int ∧ l'.length ≤ l.length := by
  refine ⟨(l.drop (HT.sIx l.length 0 lo)).take (HT.sIx l.length l.length hi - HT.sIx l.length 0 lo), ?_, ?_⟩
  · unfold cutD
    rw [List.length_map, List.map_take, List.map_drop]
  · rw [List.length_take, List.length_drop]
    omega
theorem cut_n (l : List Int) (n : Nat) (h : n ≤ l.length) : ∃ l' : List Int, cutD (l.map PyData.int) none (some (n : Int)) = l'.map PyData.int ∧ l'.length = n := by
  refine ⟨l.take n, ?_, by rw [List.length_take]; omega⟩
  unfold cutD
  rw [HT.sIx_none, HT.sIx_nat, List.length_map, Nat.min_eq_left h, List.map_take]
  rfl
section
variable {G : Gb}
theorem draws_in (x0 x1 x3 x4 : Sl) (L : Nat) (hL : L ≤ 10000) (dr : List Int) (hd : dr.length ≤ L) (num : Int) (x6 : Sl) :
    ∃ (dr' : List Int) (n' : Int) (t6 : Sl), dr'.length ≤ L + 60 ∧ forL (fun d ρ1 => (bindP (.v 6) d ρ1).bind fun ρ2 => evSs G (.cons (.ife (.cmp .gt (.v 5) (.int 0)) (.cons (.app 2 (.op .mod (.bi .int (.cons (.v 5) .nil)) (.int 1009))) (.cons (.asg (.v 5) (.op .fdiv (.v 5) (.int 1009))) .nil)) .nil) .nil) ρ2) ((List.range 60).map fun (j : Nat) => .int (j : Int)) [x0, x1, .ow (.list (dr.map PyData.int)), x3, x4, .fz (.int num), x6] = some (.nx [x0, x1, .ow (.list (dr'.map PyData.int)), x3, x4, .fz (.int n'), t6]) := by
  obtain ⟨ρ', h1, dr', n', t6, h2, h3⟩ := forL_ex (P := fun j ρ => ∃ (dr : List Int) (num : Int) (t6 : Sl), ρ = [x0, x1, .ow (.list (dr.map PyData.int)), x3, x4, .fz (.int num), t6] ∧ dr.length ≤ L + j) ((List.range 60).map fun (j : Nat) => .int (j : Int)) 0 _ ⟨dr, num, x6, rfl, by omega⟩ (step := fun d ρ1 => (bindP (.v 6) d ρ1).bind fun ρ2 => evSs G (.cons (.ife (.cmp .gt (.v 5) (.int 0)) (.cons (.app 2 (.op .mod (.bi .int (.cons (.v 5) .nil)) (.int 1009))) (.cons (.asg (.v 5) (.op .fdiv (.v 5) (.int 1009))) .nil)) .nil) .nil) ρ2) (by
    rintro j ρ d hd' hj ⟨dr, num, t6, rfl, hl⟩
    simp only [List.length_map, List.length_range] at hj
    have g := gt_int (T := G.tups) num 0
    by_cases h : 0 < num
    · rw [decide_eq_true h] at g
      have a := app_ok (dr := dr) (by omega) (num % 1009)
      exact ⟨[x0, x1, .ow (.list ((dr ++ [num % 1009]).map PyData.int)), x3, x4, .fz (.int (num / 1009)), .fz d], by simp [-List.map_map, xcall, xv, xnon, xbl, xint, xstr, xg, xop, xcmp, xchain, xisN, xnotN, xand, xor, xnot, xite, xbi, xisi, xtup, xlst, xix, xsl, xrev, xget, xlvals, xoget, xolen, evs, evO, evC, evS, evSs, evR, bindP, unpD, freeze, wipeE, En.get, En.own, asB, asI, isNo, g, int_int, i1009, d1009, a], _, _, _, rfl, by simp; omega⟩
    · rw [decide_eq_false h] at g
      exact ⟨[x0, x1, .ow (.list (dr.map PyData.int)), x3, x4, .fz (.int num), .fz d], by simp [-List.map_map, xcall, xv, xnon, xbl, xint, xstr, xg, xop, xcmp, xchain, xisN, xnotN, xand, xor, xnot, xite, xbi, xisi, xtup, xlst, xix, xsl, xrev, xget, xlvals, xoget, xolen, evs, evO, evC, evS, evSs, evR, bindP, unpD, freeze, wipeE, En.get, En.own, asB, asI, isNo, g], _, _, _, rfl, by omega⟩)
  subst h2
  exact ⟨dr', n', t6, by simpa using h3, h1⟩
end
theorem a_draws {ns : List Int} (hn : ns.length ≤ 63) {n : Nat} (h1000 : n ≤ 1000) : ∃ ds : List Int, ds.length = n ∧ ∀ k, k ≤ pl "_law_draws" → ap (Gk k) "_law_draws" [.list (ns.map PyData.int), .int (n : Int)] = some (.list (ds.map PyData.int)) := by
  obtain ⟨cs, hc1, hc2⟩ := cut_ints ns none (some (63 : Int))
  have c1 : slD (.list (ns.map PyData.int)) none (some 63) = some (.list (cs.map PyData.int)) := by
    show some (PyData.list (cutD _ none (some 63))) = _
    rw [hc1]
  -- the first loop
  obtain ⟨ρ1, h1, dr1, sd1, t4, t5, t6, e1, s0, s1, l1⟩ := forL_ex (P := fun j ρ => ∃ (dr : List Int) (sd : Int) (t4 t5 t6 : Sl), ρ = [.fz (.list (ns.map PyData.int)), .fz (.int (n : Int)), .ow (.list (dr.map PyData.int)), .fz (.int sd), t4, t5, t6] ∧ 0 ≤ sd ∧ sd < 2147483647 ∧ dr.length ≤ 60 * j) (cs.map PyData.int) 0 _ ⟨[], 7, .un, .un, .un, rfl, by decide, by decide, by simp⟩ (step := fun d ρ1 => (bindP (.v 4) d ρ1).bind fun ρ2 => evSs (Gk (pl "_law_draws" + 1)) (.cons (.asg (.v 5) (.bi .abs (.cons (.v 4) .nil))) (.cons (.asg (.v 3) (.op .mod (.bi .int (.cons (.op .add (.op .add (.op .mul (.v 3) (.int 48271)) (.v 5)) (.int 11)) .nil)) (.int 2147483647))) (.cons (.ife (.cmp .ge (.v 5) (.op .pow (.int 10) (.int 18))) (.cons (.for_ (.v 6) (.rng1 (.int 60)) (.cons (.ife (.cmp .gt (.v 5) (.int 0)) (.cons (.app 2 (.op .mod (.bi .int (.cons (.v 5) .nil)) (.int 1009))) (.cons (.asg (.v 5) (.op .fdiv (.v 5) (.int 1009))) .nil)) .nil) .nil)) .nil) (.cons (.app 2 (.op .mod (.op .fdiv (.bi .int (.cons (.op .add (.op .mul (.v 3) (.int 16807)) (.int 5)) .nil)) (.int 3)) (.int 65521))) .nil)) .nil))) ρ2) (by
    rintro j ρ d hd hj ⟨dr, sd, t4, t5, t6, rfl, s0, s1, hl⟩
    obtain ⟨z, _, rfl⟩ := List.mem_map.mp hd
    simp only [List.length_map] at hj
    have m1 := seed_mul s0 s1 (c := 48271) (by decide) (by decide)
    generalize hab : (if z < 0 then -z else z) = ab
    have a1 := abs_int (T := (Gk (pl "_law_draws" + 1)).tups) z
    rw [hab] at a1
    generalize hs : (sd * 48271 + ab + 11) % 2147483647 = sd'
    have s0' : 0 ≤ sd' := by omega
    have s1' : sd' < 2147483647 := by omega
    have m2 := seed_mul s0' s1' (c := 16807) (by decide) (by decide)
    have g := ge_int (T := (Gk (pl "_law_draws" + 1)).tups) ab 1000000000000000000
    simp only [bindP, Option.bind_some, List.set_cons_succ, List.set_cons_zero]
    rw [evSs_nx (ρ' := [.fz (.list (ns.map PyData.int)), .fz (.int (n : Int)), .ow (.list (dr.map PyData.int)), .fz (.int sd), .fz (.int z), .fz (.int ab), t6]) (by simp [-List.map_map, xcall, xv, xnon, xbl, xint, xstr, xg, xop, xcmp, xchain, xisN, xnotN, xand, xor, xnot, xite, xbi, xisi, xtup, xlst, xix, xsl, xrev, xget, xlvals, xoget, xolen, evs, evO, evC, evS, evSs, evR, bindP, unpD, freeze, wipeE, En.get, En.own, asB, asI, isNo, a1])]
    rw [evSs_nx (ρ' := [.fz (.list (ns.map PyData.int)), .fz (.int (n : Int)), .ow (.list (dr.map PyData.int)), .fz (.int sd'), .fz (.int z), .fz (.int ab), t6]) (by simp [-List.map_map, xcall, xv, xnon, xbl, xint, xstr, xg, xop, xcmp, xchain, xisN, xnotN, xand, xor, xnot, xite, xbi, xisi, xtup, xlst, xix, xsl, xrev, xget, xlvals, xoget, xolen, evs, evO, evC, evS, evSs, evR, bindP, unpD, freeze, wipeE, En.get, En.own, asB, asI, isNo, m1, add_i, int_int, m31, hs])]
    by_cases h : (1000000000000000000 : Int) ≤ ab
    · rw [decide_eq_true h] at g
      obtain ⟨dr', n', u6, l', hf⟩ := draws_in (G := Gk (pl "_law_draws" + 1)) (.fz (.list (ns.map PyData.int))) (.fz (.int (n : Int))) (.fz (.int sd')) (.fz (.int z)) (60 * j) (by omega) dr hl ab t6
      have it : evI (Gk (pl "_law_draws" + 1)) (.rng1 (.int 60)) [.fz (.list (ns.map PyData.int)), .fz (.int (n : Int)), .ow (.list (dr.map PyData.int)), .fz (.int sd'), .fz (.int z), .fz (.int ab), t6] = some ((List.range 60).map fun (j : Nat) => .int (j : Int)) := ev_rng (by rw [xint]; rfl) (by decide)
      have ef := evSs_nx (G := Gk (pl "_law_draws" + 1)) (ss := .nil) (evS_for it hf)
      refine ⟨_, ?_, dr', sd', .fz (.int z), .fz (.int n'), u6, rfl, s0', s1', by omega⟩
      refine Eq.trans (evSs_nx (ρ' := [.fz (.list (ns.map PyData.int)), .fz (.int (n : Int)), .ow (.list (dr'.map PyData.int)), .fz (.int sd'), .fz (.int z), .fz (.int n'), u6]) ?_) rfl
      have ec : asB (ev (Gk (pl "_law_draws" + 1)) (.cmp .ge (.v 5) (.op .pow (.int 10) (.int 18))) [.fz (.list (ns.map PyData.int)), .fz (.int (n : Int)), .ow (.list (dr.map PyData.int)), .fz (.int sd'), .fz (.int z), .fz (.int ab), t6]) = some true := by
        simp [-List.map_map, xcall, xv, xnon, xbl, xint, xstr, xg, xop, xcmp, xchain, xisN, xnotN, xand, xor, xnot, xite, xbi, xisi, xtup, xlst, xix, xsl, xrev, xget, xlvals, xoget, xolen, evs, evO, evC, evS, evSs, evR, bindP, unpD, freeze, wipeE, En.get, En.own, asB, asI, isNo, pow18, g]
      unfold evS
      rw [ec]
      simp only [Option.bind_some, if_true]
      rw [ef]
      rfl
    · rw [decide_eq_false h] at g
      have a2 := app_ok (dr := dr) (by omega) ((sd' * 16807 + 5) / 3 % 65521)
      refine ⟨_, ?_, dr ++ [(sd' * 16807 + 5) / 3 % 65521], sd', .fz (.int z), .fz (.int ab), t6, rfl, s0', s1', by simp; omega⟩
      simp [-List.map_map, xcall, xv, xnon, xbl, xint, xstr, xg, xop, xcmp, xchain, xisN, xnotN, xand, xor, xnot, xite, xbi, xisi, xtup, xlst, xix, xsl, xrev, xget, xlvals, xoget, xolen, evs, evO, evC, evS, evSs, evR, bindP, unpD, freeze, wipeE, En.get, En.own, asB, asI, isNo, pow18, g, m2, add_i, int_int, d3, m65, a2])
  subst e1
  simp only [List.length_map, Nat.zero_add] at l1
  -- the second loop
  obtain ⟨ρ2, h2, dr2, sd2, u4, u5, u6, e2, s2, s3, l2, l3⟩ := forL_ex (P := fun j ρ => ∃ (dr : List Int) (sd : Int) (t4 t5 t6 : Sl), ρ = [.fz (.list (ns.map PyData.int)), .fz (.int (n : Int)), .ow (.list (dr.map PyData.int)), .fz (.int sd), t4, t5, t6] ∧ 0 ≤ sd ∧ sd < 2147483647 ∧ dr.length ≤ 3780 + j ∧ (j ≤ dr.length ∨ n ≤ dr.length)) ((List.range n).map fun (j : Nat) => PyData.int (j : Int)) 0 _ ⟨dr1, sd1, t4, t5, t6, rfl, s0, s1, by omega, .inl (by omega)⟩ (step := fun d ρ1 => (bindP (.v 6) d ρ1).bind fun ρ2 => evSs (Gk (pl "_law_draws" + 1)) (.cons (.ife (.cmp .lt (.olen 2) (.v 1)) (.cons (.asg (.v 3) (.op .mod (.bi .int (.cons (.op .add (.op .add (.op .mul (.v 3) (.int 69621)) (.v 6)) (.int 1)) .nil)) (.int 2147483647))) (.cons (.app 2 (.op .mod (.op .fdiv (.bi .int (.cons (.v 3) .nil)) (.int 7)) (.int 65521))) .nil)) .nil) .nil) ρ2) (by
    rintro j ρ d hd hj ⟨dr, sd, t4, t5, t6, rfl, s0, s1, hl, hj2⟩
    obtain ⟨z, _, rfl⟩ := List.mem_map.mp hd
    simp only [List.length_map, List.length_range] at hj
    have m1 := seed_mul s0 s1 (c := 69621) (by decide) (by decide)
    have g := lt_int (T := (Gk (pl "_law_draws" + 1)).tups) (dr.length : Int) (n : Int)
    have ol : olenD (.list (dr.map PyData.int)) = some (.int (dr.length : Int)) := by simp [olenD]
    by_cases h : (dr.length : Int) < (n : Int)
    · rw [decide_eq_true h] at g
      have s0' : 0 ≤ (sd * 69621 + (z : Int) + 1) % 2147483647 := by omega
      have s1' : (sd * 69621 + (z : Int) + 1) % 2147483647 < 2147483647 := by omega
      have a2 := app_ok (dr := dr) (by omega) ((sd * 69621 + (z : Int) + 1) % 2147483647 / 7 % 65521)
      refine ⟨_, ?_, dr ++ [(sd * 69621 + (z : Int) + 1) % 2147483647 / 7 % 65521], (sd * 69621 + (z : Int) + 1) % 2147483647, t4, t5, .fz (.int (z : Int)), rfl, s0', s1', by simp; omega, by simp; omega⟩
      simp [-List.map_map, xcall, xv, xnon, xbl, xint, xstr, xg, xop, xcmp, xchain, xisN, xnotN, xand, xor, xnot, xite, xbi, xisi, xtup, xlst, xix, xsl, xrev, xget, xlvals, xoget, xolen, evs, evO, evC, evS, evSs, evR, bindP, unpD, freeze, wipeE, En.get, En.own, asB, asI, isNo, ol, g, m1, add_i, int_int, m31, d7, m65, a2]
    · rw [decide_eq_false h] at g
      refine ⟨_, ?_, dr, sd, t4, t5, .fz (.int (z : Int)), rfl, s0, s1, by omega, by omega⟩
      simp [-List.map_map, xcall, xv, xnon, xbl, xint, xstr, xg, xop, xcmp, xchain, xisN, xnotN, xand, xor, xnot, xite, xbi, xisi, xtup, xlst, xix, xsl, xrev, xget, xlvals, xoget, xolen, evs, evO, evC, evS, evSs, evR, bindP, unpD, freeze, wipeE, En.get, En.own, asB, asI, isNo, ol, g])
  subst e2
  simp only [List.length_map, List.length_range, Nat.zero_add] at l3
  have ln : n ≤ dr2.length := by omega
  obtain ⟨ds, hd1, hd2⟩ := cut_n dr2 n ln
  have c2 : slD (.list (dr2.map PyData.int)) none (some (n : Int)) = some (.list (ds.map PyData.int)) := by
    show some (PyData.list (cutD _ none (some (n : Int)))) = _
    rw [hd1]
  refine ⟨ds, hd2, at_ rfl rfl ?_⟩
  refine run_of (ρ := [.fz (.list (ns.map PyData.int)), .fz (.int (n : Int)), .un, .un, .un, .un, .un]) rfl rfl ?_
  unfold K03.f__law_draws K03.b__law_draws
  rw [evSs_nx (ρ' := [.fz (.list (ns.map PyData.int)), .fz (.int (n : Int)), .ow (.list ([].map PyData.int)), .un, .un, .un, .un]) (by simp [-List.map_map, xcall, xv, xnon, xbl, xint, xstr, xg, xop, xcmp, xchain, xisN, xnotN, xand, xor, xnot, xite, xbi, xisi, xtup, xlst, xix, xsl, xrev, xget, xlvals, xoget, xolen, evs, evO, evC, evS, evSs, evR, bindP, unpD, freeze, wipeE, En.get, En.own, asB, asI, isNo])]
  rw [evSs_nx (ρ' := [.fz (.list (ns.map PyData.int)), .fz (.int (n : Int)), .ow (.list ([].map PyData.int)), .fz (.int 7), .un, .un, .un]) (by simp [-List.map_map, xcall, xv, xnon, xbl, xint, xstr, xg, xop, xcmp, xchain, xisN, xnotN, xand, xor, xnot, xite, xbi, xisi, xtup, xlst, xix, xsl, xrev, xget, xlvals, xoget, xolen, evs, evO, evC, evS, evSs, evR, bindP, unpD, freeze, wipeE, En.get, En.own, asB, asI, isNo])]
  have it1 : evI (Gk (pl "_law_draws" + 1)) (.seq (.sl (.v 0) .non (.some (.int 63)))) [.fz (.list (ns.map PyData.int)), .fz (.int (n : Int)), .ow (.list ([].map PyData.int)), .fz (.int 7), .un, .un, .un] = some (cs.map PyData.int) := by
    unfold evI
    simp [-List.map_map, xcall, xv, xnon, xbl, xint, xstr, xg, xop, xcmp, xchain, xisN, xnotN, xand, xor, xnot, xite, xbi, xisi, xtup, xlst, xix, xsl, xrev, xget, xlvals, xoget, xolen, evs, evO, evC, evS, evSs, evR, bindP, unpD, freeze, wipeE, En.get, En.own, asB, asI, isNo, c1, seqD]
  rw [evSs_nx (evS_for it1 h1)]
  have it2 : evI (Gk (pl "_law_draws" + 1)) (.rng1 (.v 1)) [.fz (.list (ns.map PyData.int)), .fz (.int (n : Int)), .ow (.list (dr1.map PyData.int)), .fz (.int sd1), t4, t5, t6] = some ((List.range n).map fun (j : Nat) => .int (j : Int)) := ev_rng (by rw [xv]; rfl) h1000
  rw [evSs_nx (evS_for it2 h2)]
  refine evSs_rt ?_
  simp [-List.map_map, xcall, xv, xnon, xbl, xint, xstr, xg, xop, xcmp, xchain, xisN, xnotN, xand, xor, xnot, xite, xbi, xisi, xtup, xlst, xix, xsl, xrev, xget, xlvals, xoget, xolen, evs, evO, evC, evS, evSs, evR, bindP, unpD, freeze, wipeE, En.get, En.own, asB, asI, isNo, c2]
end PL


set_option Elab.async false
set_option linter.all false
set_option maxRecDepth 100000
set_option exponentiation.threshold 20000
/-! NA: the law's fractions. -/
namespace PL
open PySem
theorem loopO_nx (f : En → Option Out) (ρ : En) : loopO f (.nx ρ) = f ρ := rfl
theorem gcd_loop {G : Gb} : ∀ (b : Nat) (ds : List D) (x y : Nat) (x2 : Sl), y < 2 ^ b → 2 * b + 1 ≤ ds.length → forL (fun d ρ1 => (bindP (.v 2) d ρ1).bind fun ρ2 => evSs G (.cons (.ife (.cmp .eq (.v 1) (.int 0)) (.cons (.ret (.v 0)) .nil) .nil) (.cons (.par 0 1 (.ex (.v 1)) (.ex (.op .mod (.v 0) (.v 1)))) .nil)) ρ2) ds [.fz (.int (x : Int)), .fz (.int (y : Int)), x2] = some (.rt (.int (Nat.gcd x y : Nat))) := by
  have stop : ∀ (d : D) (x : Nat) (x2 : Sl), (bindP (.v 2) d [.fz (.int (x : Int)), .fz (.int ((0 : Nat) : Int)), x2]).bind (fun ρ2 => evSs G (.cons (.ife (.cmp .eq (.v 1) (.int 0)) (.cons (.ret (.v 0)) .nil) .nil) (.cons (.par 0 1 (.ex (.v 1)) (.ex (.op .mod (.v 0) (.v 1)))) .nil)) ρ2) = some (.rt (.int (x : Int))) := by
    intro d x x2
    have e := eq_int (T := G.tups) ((0 : Nat) : Int) 0
    rw [decide_eq_true (by decide)] at e
    have e : cmpD G.tups .eq (.int 0) (.int 0) = some true := e
    simp [-List.map_map, xcall, xv, xnon, xbl, xint, xstr, xg, xop, xcmp, xchain, xisN, xnotN, xand, xor, xnot, xite, xbi, xisi, xtup, xlst, xix, xsl, xrev, xget, xlvals, xoget, xolen, evs, evO, evC, evS, evSs, evR, bindP, unpD, freeze, wipeE, En.get, En.own, asB, asI, isNo, e]
  have go : ∀ (d : D) (x y : Nat) (x2 : Sl), 0 < y → (bindP (.v 2) d [.fz (.int (x : Int)), .fz (.int (y : Int)), x2]).bind (fun ρ2 => evSs G (.cons (.ife (.cmp .eq (.v 1) (.int 0)) (.cons (.ret (.v 0)) .nil) .nil) (.cons (.par 0 1 (.ex (.v 1)) (.ex (.op .mod (.v 0) (.v 1)))) .nil)) ρ2) = some (.nx [.fz (.int (y : Int)), .fz (.int ((x % y : Nat) : Int)), .fz d]) := by
    intro d x y x2 hy
    have e := eq_int (T := G.tups) (y : Int) 0
    rw [decide_eq_false (by omega)] at e
    have m := mod_i (a := (x : Int)) (b := (y : Int)) (by omega)
    rw [← Int.natCast_emod] at m
    simp [-List.map_map, xcall, xv, xnon, xbl, xint, xstr, xg, xop, xcmp, xchain, xisN, xnotN, xand, xor, xnot, xite, xbi, xisi, xtup, xlst, xix, xsl, xrev, xget, xlvals, xoget, xolen, evs, evO, evC, evS, evSs, evR, bindP, unpD, freeze, wipeE, En.get, En.own, asB, asI, isNo, e, m]
  intro b
  induction b with
  | zero =>
    intro ds x y x2 hy hl
    have hy0 : y = 0 := by simpa using hy
    subst hy0
    cases ds with
    | nil => simp at hl
    | cons d ds =>
      rw [forL_cons, stop, Option.bind_some]
      simp [loopO]
  | succ b ih =>
    intro ds x y x2 hy hl
    cases ds with
    | nil => simp at hl
    | cons d ds =>
      by_cases h0 : y = 0
      · subst h0
        rw [forL_cons, stop, Option.bind_some]
        simp [loopO]
      · rw [forL_cons, go d x y x2 (by omega), Option.bind_some]
        cases ds with
        | nil => simp at hl
        | cons d2 ds =>
          rw [loopO_nx]
          have hr : x % y < y := Nat.mod_lt _ (by omega)
          have hg : Nat.gcd x y = Nat.gcd y (x % y) := by rw [Nat.gcd_comm x y, Nat.gcd_rec, Nat.gcd_comm]
          by_cases h1 : x % y = 0
          · rw [h1, forL_cons, stop, Option.bind_some, hg, h1]
            simp [loopO]
          · rw [forL_cons, go d2 y (x % y) _ (by omega), Option.bind_some]
            rw [loopO_nx]
            have h2 : y % (x % y) < 2 ^ b := by
              have h3 : y % (x % y) < x % y := Nat.mod_lt _ (by omega)
              have h4 : y % (x % y) + x % y ≤ y := by
                have h5 := Nat.div_add_mod y (x % y)
                have h6 : 1 ≤ y / (x % y) := Nat.div_pos (by omega) (by omega)
                have h7 : x % y ≤ x % y * (y / (x % y)) := Nat.le_mul_of_pos_right _ h6
                omega
              rw [Nat.pow_succ] at hy
              omega
            rw [ih ds (x % y) (y % (x % y)) _ h2 (by simp at hl; omega)]
            rw [hg, Nat.gcd_comm y (x % y), Nat.gcd_rec (x % y) y, Nat.gcd_comm]
theorem rng_n (n : Nat) (h : n ≤ 4000) : rngD 0 (n : Int) = some ((List.range n).map fun (j : Nat) => .int (j : Int)) := by
  unfold rngD
  rw [if_pos (by omega)]
  simp
theorem a_common (x y : Nat) (hy : y < 2 ^ 1900) : ∀ k, k ≤ pl "_law_common" → ap (Gk k) "_law_common" [.int (x : Int), .int (y : Int)] = some (.int (Nat.gcd x y : Nat)) := by
  refine at_ rfl rfl ?_
  refine run_of (ρ := [.fz (.int (x : Int)), .fz (.int (y : Int)), .un]) rfl rfl ?_
  unfold K03.f__law_common K03.b__law_common
  have h := gcd_loop (G := Gk (pl "_law_common" + 1)) 1900 ((List.range 4000).map fun (j : Nat) => .int (j : Int)) x y .un hy (by rw [List.length_map, List.length_range]; decide)
  have it : evI (Gk (pl "_law_common" + 1)) (.rng1 (.int 4000)) [.fz (.int (x : Int)), .fz (.int (y : Int)), .un] = some ((List.range 4000).map fun (j : Nat) => .int (j : Int)) := by
    have e : evI (Gk (pl "_law_common" + 1)) (.rng1 (.int 4000)) [.fz (.int (x : Int)), .fz (.int (y : Int)), .un] = (asI (ev (Gk (pl "_law_common" + 1)) (.int 4000) [.fz (.int (x : Int)), .fz (.int (y : Int)), .un])).bind fun z => rngD 0 z := by simp only [evI]
    rw [e, xint, asI_int, Option.bind_some]
    exact rng_n 4000 (Nat.le_refl _)
  exact evSs_rt (evS_for it h)
theorem a_lowest (a : Int) (b : Nat) (hb : 0 < b) (h1 : b < 2 ^ 1900) : ∀ k, k ≤ pl "_law_lowest" → ap (Gk k) "_law_lowest" [.int a, .int (b : Int)] = some (fr (mkRat a b)) := by
  refine at_ rfl rfl ?_
  rw [fr_div a b hb]
  have hgp : 0 < Nat.gcd a.natAbs b := Nat.gcd_pos_of_pos_right _ hb
  have hle : Nat.gcd a.natAbs b ≤ b := Nat.gcd_le_right _ hb
  have hs : (Nat.gcd a.natAbs b).log2 < 9000 := Nat.lt_trans (log_lt (Nat.lt_of_le_of_lt hle h1) (by decide)) (by decide)
  have c1 := a_common a.natAbs b h1 _ (show pl "_law_lowest" + 1 ≤ pl "_law_common" by decide +kernel)
  have c2 : biD (Gk (pl "_law_lowest" + 1)).tups .abs [.int a] = some (.int (a.natAbs : Int)) := by
    rw [abs_int]
    congr 2
    split <;> omega
  have e1 : opD .fdiv (.int a) (.int (Nat.gcd a.natAbs b : Nat)) = some (.int (a / (Nat.gcd a.natAbs b : Nat))) := fdiv_i (by omega) (by simpa using hs)
  have e2 : opD .fdiv (.int (b : Int)) (.int (Nat.gcd a.natAbs b : Nat)) = some (.int ((b : Int) / (Nat.gcd a.natAbs b : Nat))) := fdiv_i (by omega) (by simpa using hs)
  refine run_of (ρ := [.fz (.int a), .fz (.int (b : Int)), .un]) rfl rfl ?_
  unfold K03.f__law_lowest K03.b__law_lowest
  simp [-List.map_map, xcall, xv, xnon, xbl, xint, xstr, xg, xop, xcmp, xchain, xisN, xnotN, xand, xor, xnot, xite, xbi, xisi, xtup, xlst, xix, xsl, xrev, xget, xlvals, xoget, xolen, evs, evO, evC, evS, evSs, evR, bindP, unpD, freeze, wipeE, En.get, En.own, asB, asI, isNo, c1, c2, e1, e2]
/-- fractions at ease for the law's own sums -/
abbrev Se (r : Rat) : Prop := Sz 900 r
theorem Se.sm {r : Rat} (h : Se r) : Sm r := h.mono (by decide)
theorem se_den {r s : Rat} (hr : Se r) (hs : Se s) : 0 < r.den * s.den ∧ r.den * s.den < 2 ^ 1900 := by
  refine ⟨Nat.mul_pos r.den_pos s.den_pos, Nat.lt_of_lt_of_le (Nat.mul_lt_mul'' hr.2 hs.2) ?_⟩
  rw [← Nat.pow_add]
  exact Nat.pow_le_pow_right (by decide) (by decide)
theorem Bd.se {M B : Nat} {r : Rat} (h : Bd M B r) (hM : 0 < M) (h1 : M < 2 ^ 64) (h2 : B < 2 ^ 20) : Se r := (h.sz hM h1 h2).mono (by decide)
theorem a_lplus {r s : Rat} (hr : Se r) (hs : Se s) : ∀ k, k ≤ pl "_law_plus" → ap (Gk k) "_law_plus" [fr r, fr s] = some (fr (r + s)) := by
  refine at_ rfl rfl ?_
  have m1 := mul_ok hr.sm.num hs.sm.den (by decide) (by decide) (by decide)
  have m2 := mul_ok hs.sm.num hr.sm.den (by decide) (by decide) (by decide)
  have m3 := mul_ok hr.sm.den hs.sm.den (by decide) (by decide) (by decide)
  obtain ⟨d0, d1⟩ := se_den hr hs
  have c := a_lowest (r.num * (s.den : Int) + s.num * (r.den : Int)) (r.den * s.den) d0 d1 _ (show pl "_law_plus" + 1 ≤ pl "_law_lowest" by decide +kernel)
  rw [Int.natCast_mul] at c
  rw [Rat.add_def']
  unfold K03.f__law_plus K03.b__law_plus
  simp [-List.map_map, xcall, xv, xnon, xbl, xint, xstr, xg, xop, xcmp, xchain, xisN, xnotN, xand, xor, xnot, xite, xbi, xisi, xtup, xlst, xix, xsl, xrev, xget, xlvals, xoget, xolen, evs, evO, evC, evS, evSs, evR, bindP, unpD, freeze, wipeE, En.get, En.own, asB, asI, isNo, run, fr0, fr1, m1, m2, m3, c, add_i]
theorem a_ltimes {r s : Rat} (hr : Se r) (hs : Se s) : ∀ k, k ≤ pl "_law_times" → ap (Gk k) "_law_times" [fr r, fr s] = some (fr (r * s)) := by
  refine at_ rfl rfl ?_
  have m1 := mul_ok hr.sm.num hs.sm.num (by decide) (by decide) (by decide)
  have m3 := mul_ok hr.sm.den hs.sm.den (by decide) (by decide) (by decide)
  obtain ⟨d0, d1⟩ := se_den hr hs
  have c := a_lowest (r.num * s.num) (r.den * s.den) d0 d1 _ (show pl "_law_times" + 1 ≤ pl "_law_lowest" by decide +kernel)
  rw [Int.natCast_mul] at c
  rw [Rat.mul_def']
  unfold K03.f__law_times K03.b__law_times
  simp [-List.map_map, xcall, xv, xnon, xbl, xint, xstr, xg, xop, xcmp, xchain, xisN, xnotN, xand, xor, xnot, xite, xbi, xisi, xtup, xlst, xix, xsl, xrev, xget, xlvals, xoget, xolen, evs, evO, evC, evS, evSs, evR, bindP, unpD, freeze, wipeE, En.get, En.own, asB, asI, isNo, run, fr0, fr1, m1, m3, c]
theorem fr_neg (r : Rat) : fr (-r) = .tuple [.int (0 - r.num), .int (r.den : Int)] := by
  unfold fr
  rw [Rat.neg_num, Rat.neg_den, Int.zero_sub]
theorem a_lminus {r s : Rat} (hr : Se r) (hs : Se s) : ∀ k, k ≤ pl "_law_minus" → ap (Gk k) "_law_minus" [fr r, fr s] = some (fr (r - s)) := by
  refine at_ rfl rfl ?_
  have hn : Se (-s) := by
    refine ⟨?_, ?_⟩
    · rw [Rat.neg_num, Int.natAbs_neg]; exact hs.1
    · rw [Rat.neg_den]; exact hs.2
  have c := a_lplus hr hn _ (show pl "_law_minus" + 1 ≤ pl "_law_plus" by decide +kernel)
  rw [fr_neg, ← Rat.sub_eq_add_neg, Int.zero_sub] at c
  unfold K03.f__law_minus K03.b__law_minus
  simp [-List.map_map, xcall, xv, xnon, xbl, xint, xstr, xg, xop, xcmp, xchain, xisN, xnotN, xand, xor, xnot, xite, xbi, xisi, xtup, xlst, xix, xsl, xrev, xget, xlvals, xoget, xolen, evs, evO, evC, evS, evSs, evR, bindP, unpD, freeze, wipeE, En.get, En.own, asB, asI, isNo, run, fr0, fr1, c, sub_i]
theorem a_labove {r s : Rat} (hr : Se r) (hs : Se s) : ∀ k, k ≤ pl "_law_is_above" → ap (Gk k) "_law_is_above" [fr r, fr s] = some (.bool (decide (s < r))) := by
  refine at_ rfl rfl ?_
  have m1 := mul_ok hr.sm.num hs.sm.den (by decide) (by decide) (by decide)
  have m2 := mul_ok hs.sm.num hr.sm.den (by decide) (by decide) (by decide)
  have e : decide (s < r) = decide (s.num * (r.den : Int) < r.num * (s.den : Int)) := decide_eq_decide.mpr (Rat.lt_iff s r)
  rw [e]
  unfold K03.f__law_is_above K03.b__law_is_above
  simp [-List.map_map, xcall, xv, xnon, xbl, xint, xstr, xg, xop, xcmp, xchain, xisN, xnotN, xand, xor, xnot, xite, xbi, xisi, xtup, xlst, xix, xsl, xrev, xget, xlvals, xoget, xolen, evs, evO, evC, evS, evSs, evR, bindP, unpD, freeze, wipeE, En.get, En.own, asB, asI, isNo, run, fr0, fr1, m1, m2, gt_int]
/-! ### a spread of pairs of the law's own -/
theorem le_rows {q p : Int × Int} (h : q.1 < p.1) : PySem.W.dataLe false id (prD q) (prD p) = true := by
  unfold PySem.W.dataLe PySem.W.sortLe prD
  simp only [cond_false, id, PySem.W.keyToks, PySem.W.keyToksAll, List.singleton_append]
  rw [Bool.not_eq_true']
  rw [PyProof.Rows.lex_self]
  rw [PyProof.Rows.lex_diff (fun e => by have := Sum.inl.inj e; omega)]
  show decide (p.1 < q.1) = false
  exact decide_eq_false (by omega)
theorem sorted_rows {T : List D} {w : Wt} (inc : (w.map (·.1)).Pairwise (· < ·)) : biD T .sorted [.list (w.map prD)] = some (.list (w.map prD)) := by
  have hs : (w.map prD).Pairwise (fun a b => PySem.W.dataLe false id a b = true) := by
    rw [List.pairwise_map] at inc ⊢
    exact inc.imp le_rows
  have hk : sortOk (w.map prD) = true := by
    unfold sortOk
    have h1 : ∀ d ∈ w.map prD, ∃ q, d = prD q := fun d hd => by
      obtain ⟨q, _, e⟩ := List.mem_map.mp hd
      exact ⟨q, e.symm⟩
    rw [Bool.and_eq_true, Bool.and_eq_true, Bool.or_eq_true]
    refine ⟨⟨List.all_eq_true.mpr fun d hd => List.all_eq_true.mpr fun e he => ?_, .inl (List.all_eq_true.mpr fun d hd => ?_)⟩, List.all_eq_true.mpr fun d hd => ?_⟩
    · obtain ⟨q, rfl⟩ := h1 d hd
      obtain ⟨p, rfl⟩ := h1 e he
      rfl
    · obtain ⟨q, rfl⟩ := h1 d hd
      rfl
    · obtain ⟨q, rfl⟩ := h1 d hd
      rfl
  show sortD (w.map prD) = _
  unfold sortD
  rw [if_pos hk, List.mergeSort_of_pairwise hs]
end PL


set_option Elab.async false
set_option linter.all false
set_option maxRecDepth 100000
set_option exponentiation.threshold 20000
/-! NB: a spread made by the law; equal spreads. -/
namespace PL
open PySem
theorem canAll_rows : ∀ w : Wt, PyData.canLayAll0 (w.map prD) = true
  | [] => rfl
  | q :: r => by
    rw [List.map_cons, PyData.canLayAll0, canAll_rows r]
    rfl
theorem depth_rows : ∀ w : Wt, PyData.depthAll (w.map prD) ≤ 1
  | [] => by simp [PyData.depthAll]
  | q :: r => by
    have := depth_rows r
    have h : PyData.depth (prD q) = 1 := by simp [prD, PyData.depth, PyData.depthAll]
    rw [List.map_cons, PyData.depthAll, h]
    omega
theorem sp_shaped (w : Wt) : SeqAt.shaped (spD w) = true := by
  have h1 := canAll_rows w
  have h2 := depth_rows w
  unfold SeqAt.shaped spD rowsD
  rw [Bool.and_eq_true]
  refine ⟨by simp [PyData.canLay0, PyData.canLayAll0, h1], decide_eq_true ?_⟩
  simp only [PyData.depth, PyData.depthAll]
  omega
theorem sp_ne {T : List D} {w w' : Wt} (h : w = w') : cmpD T .ne (spD w) (spD w') = some false := by
  subst h
  exact cmp_ne_same (sp_shaped w)
theorem fr_ne {T : List D} {r s : Rat} (h : r = s) : cmpD T .ne (fr r) (fr s) = some false := by
  subst h
  exact cmp_ne_same (fr_shaped r)
theorem nrm_asc {w : Wt} (inc : (w.map (·.1)).Pairwise (· < ·)) : nrm w = (posW w).map fun q => (q.1, q.2 / (gcdL ((posW w).map (·.2)) : Int)) := by
  have inc' : ((posW w).map (·.1)).Pairwise (· < ·) := inc.sublist ((List.filter_sublist (l := w)).map _)
  have nd' : ((posW w).map (·.1)).Nodup := inc'.imp fun h => Int.ne_of_lt h
  have hs : sortI ((posW w).map (·.1)) = (posW w).map (·.1) := PySem.W.ksm_same (sortI_perm _) (sortI_sorted _) (inc'.imp fun h => Int.le_of_lt h)
  unfold nrm
  rw [hs, List.map_map]
  refine List.map_congr_left fun q hq => ?_
  simp only [Function.comp]
  unfold valW
  rw [(lookup_mem_iff nd').mpr (show (q.1, q.2) ∈ posW w from hq)]
  rfl
theorem made_loop (x0 : Sl) : ∀ (bs : Wt) (c : Nat) (x1 x3 x4 x5 : Sl), (∀ q ∈ bs, 0 < q.2 ∧ q.2 < 2 ^ 60) → ∃ t3 t4, forL (fun d ρ1 => (bindP (.cons (.v 3) (.cons (.v 4) .nil)) d ρ1).bind fun ρ2 => evSs (Gk (pl "_law_made" + 1)) (.cons (.asg (.v 2) (.call "_law_common" (.cons (.v 2) (.cons (.v 4) .nil)))) .nil) ρ2) (bs.map prD) [x0, x1, .fz (.int (c : Int)), x3, x4, x5] = some (.nx [x0, x1, .fz (.int (((bs.map (·.2)).foldl (fun a z => Nat.gcd a z.natAbs) c : Nat) : Int)), t3, t4, x5])
  | [], c, x1, x3, x4, x5, _ => ⟨x3, x4, rfl⟩
  | q :: r, c, x1, x3, x4, x5, h => by
    obtain ⟨h1, h2⟩ := h q List.mem_cons_self
    obtain ⟨t3, t4, hf⟩ := made_loop x0 r (Nat.gcd c q.2.natAbs) x1 (.fz (.int q.1)) (.fz (.int q.2)) x5 fun y hy => h y (List.mem_cons_of_mem _ hy)
    refine ⟨t3, t4, ?_⟩
    have c1 := a_common c q.2.natAbs (Nat.lt_of_lt_of_le (show q.2.natAbs < 2 ^ 60 by omega) (Nat.pow_le_pow_right (by decide) (by decide))) _ (show pl "_law_made" + 1 ≤ pl "_law_common" by decide +kernel)
    rw [show ((q.2.natAbs : Nat) : Int) = q.2 by omega] at c1
    rw [List.map_cons, forL_cons]
    have step : (bindP (.cons (.v 3) (.cons (.v 4) .nil)) (prD q) [x0, x1, .fz (.int (c : Int)), x3, x4, x5]).bind (fun ρ2 => evSs (Gk (pl "_law_made" + 1)) (.cons (.asg (.v 2) (.call "_law_common" (.cons (.v 2) (.cons (.v 4) .nil)))) .nil) ρ2) = some (.nx [x0, x1, .fz (.int ((Nat.gcd c q.2.natAbs : Nat) : Int)), .fz (.int q.1), .fz (.int q.2), x5]) := by
      unfold prD
      simp [-List.map_map, xcall, xv, xnon, xbl, xint, xstr, xg, xop, xcmp, xchain, xisN, xnotN, xand, xor, xnot, xite, xbi, xisi, xtup, xlst, xix, xsl, xrev, xget, xlvals, xoget, xolen, evs, evO, evC, evS, evSs, evR, bindP, unpD, freeze, wipeE, En.get, En.own, asB, asI, isNo, c1]
    rw [step, Option.bind_some]
    exact hf
theorem a_made {w : Wt} (inc : (w.map (·.1)).Pairwise (· < ·)) (hw : ∀ q ∈ w, 0 ≤ q.2 ∧ q.2 < 2 ^ 60) (hp : ∃ q ∈ w, 0 < q.2) : ∀ k, k ≤ pl "_law_made" → ap (Gk k) "_law_made" [.list (w.map prD)] = some (spD (nrm w)) := by
  refine at_ rfl rfl ?_
  refine run_of (ρ := [.fz (.list (w.map prD)), .un, .un, .un, .un, .un]) rfl rfl ?_
  unfold K03.f__law_made K03.b__law_made
  have inc' : ((posW w).map (·.1)).Pairwise (· < ·) := inc.sublist ((List.filter_sublist (l := w)).map _)
  obtain ⟨q0, hq0, hq1⟩ := hp
  have hq2 : q0 ∈ posW w := mem_posW.mpr ⟨hq0, hq1⟩
  have hg0 : 0 < gcdL ((posW w).map (·.2)) := gcdL_pos (List.mem_map_of_mem hq2) (by omega)
  have hg1 : gcdL ((posW w).map (·.2)) < 2 ^ 60 := by
    have h1 : gcdL ((posW w).map (·.2)) ≤ q0.2.natAbs := Nat.le_of_dvd (by omega) (gcdL_dvd (List.mem_map_of_mem hq2))
    have h2 := (hw q0 hq0).2
    omega
  have e1 : ev (Gk (pl "_law_made" + 1)) (.lc [5] (.v 5) (.v 5) (.seq (.v 0)) (.some (.cmp .gt (.ix (.v 5) (.int 1)) (.int 0)))) [.fz (.list (w.map prD)), .un, .un, .un, .un, .un] = some (.list ((posW w).map prD)) := by
    refine ev_lc (ds := w.map prD) rfl ?_
    have k := compL_map (f := stepL [5] (.v 5) (fun ρ1 => evC (Gk (pl "_law_made" + 1)) (.some (.cmp .gt (.ix (.v 5) (.int 1)) (.int 0))) ρ1) (fun ρ1 => ev (Gk (pl "_law_made" + 1)) (.v 5) ρ1) [.fz (.list (w.map prD)), .un, .un, .un, .un, .un]) (g := prD) (k := prD) (u := fun q : Int × Int => if 0 < q.2 then some q else none) (fun q => by
      have g := gt_int (T := (Gk (pl "_law_made" + 1)).tups) q.2 0
      unfold stepL
      by_cases h : 0 < q.2
      · rw [decide_eq_true h] at g
        simp [-List.map_map, xcall, xv, xnon, xbl, xint, xstr, xg, xop, xcmp, xchain, xisN, xnotN, xand, xor, xnot, xite, xbi, xisi, xtup, xlst, xix, xsl, xrev, xget, xlvals, xoget, xolen, evs, evO, evC, evS, evSs, evR, bindP, unpD, freeze, wipeE, En.get, En.own, asB, asI, isNo, pr1, g, h]
      · rw [decide_eq_false h] at g
        simp [-List.map_map, xcall, xv, xnon, xbl, xint, xstr, xg, xop, xcmp, xchain, xisN, xnotN, xand, xor, xnot, xite, xbi, xisi, xtup, xlst, xix, xsl, xrev, xget, xlvals, xoget, xolen, evs, evO, evC, evS, evSs, evR, bindP, unpD, freeze, wipeE, En.get, En.own, asB, asI, isNo, pr1, g, h]) w
    rw [k]
    congr 2
    unfold posW
    rw [← List.filterMap_eq_filter]
    congr 1
    funext q
    by_cases h : 0 < q.2 <;> simp [h, Option.guard]
  have e2 := sorted_rows (T := (Gk (pl "_law_made" + 1)).tups) inc'
  rw [evSs_nx (ρ' := [.fz (.list (w.map prD)), .fz (.list ((posW w).map prD)), .un, .un, .un, .un]) (by simp [-List.map_map, xcall, xv, xnon, xbl, xint, xstr, xg, xop, xcmp, xchain, xisN, xnotN, xand, xor, xnot, xite, xbi, xisi, xtup, xlst, xix, xsl, xrev, xget, xlvals, xoget, xolen, evs, evO, evC, evS, evSs, evR, bindP, unpD, freeze, wipeE, En.get, En.own, asB, asI, isNo, e1, e2])]
  rw [evSs_nx (ρ' := [.fz (.list (w.map prD)), .fz (.list ((posW w).map prD)), .fz (.int ((0 : Nat) : Int)), .un, .un, .un]) (by rfl)]
  obtain ⟨t3, t4, h⟩ := made_loop (.fz (.list (w.map prD))) (posW w) 0 (.fz (.list ((posW w).map prD))) .un .un .un (fun q hq => ⟨(mem_posW.mp hq).2, (hw q (mem_posW.mp hq).1).2⟩)
  have it : evI (Gk (pl "_law_made" + 1)) (.seq (.v 1)) [.fz (.list (w.map prD)), .fz (.list ((posW w).map prD)), .fz (.int ((0 : Nat) : Int)), .un, .un, .un] = some ((posW w).map prD) := by rfl
  rw [evSs_nx (evS_for it h)]
  have h : (((posW w).map (·.2)).foldl (fun a z => Nat.gcd a z.natAbs) 0) = gcdL ((posW w).map (·.2)) := rfl
  rw [h]
  have e3 : ev (Gk (pl "_law_made" + 1)) (.lc [3, 4] (.tup (.cons (.v 3) (.cons (.op .fdiv (.v 4) (.v 2)) .nil))) (.cons (.v 3) (.cons (.v 4) .nil)) (.seq (.v 1)) .non) [.fz (.list (w.map prD)), .fz (.list ((posW w).map prD)), .fz (.int (gcdL ((posW w).map (·.2)) : Int)), t3, t4, .un] = some (.list ((nrm w).map prD)) := by
    rw [nrm_asc inc, List.map_map]
    refine ev_lc (ds := (posW w).map prD) rfl (compL_all (posW w) fun q hq => ?_)
    have d := fdiv_i (a := q.2) (b := (gcdL ((posW w).map (·.2)) : Int)) (by omega) (Nat.lt_trans (log_lt (n := 60) (by simpa using hg1) (by decide)) (by decide))
    unfold stepL prD
    simp [-List.map_map, xcall, xv, xnon, xbl, xint, xstr, xg, xop, xcmp, xchain, xisN, xnotN, xand, xor, xnot, xite, xbi, xisi, xtup, xlst, xix, xsl, xrev, xget, xlvals, xoget, xolen, evs, evO, evC, evS, evSs, evR, bindP, unpD, freeze, wipeE, En.get, En.own, asB, asI, isNo, d]
  rw [evSs_nx (ρ' := [.fz (.list (w.map prD)), .fz (.list ((nrm w).map prD)), .fz (.int (gcdL ((posW w).map (·.2)) : Int)), t3, t4, .un]) (by simp [-List.map_map, xcall, xv, xnon, xbl, xint, xstr, xg, xop, xcmp, xchain, xisN, xnotN, xand, xor, xnot, xite, xbi, xisi, xtup, xlst, xix, xsl, xrev, xget, xlvals, xoget, xolen, evs, evO, evC, evS, evSs, evR, bindP, unpD, freeze, wipeE, En.get, En.own, asB, asI, isNo, e3])]
  have e4 : ev (Gk (pl "_law_made" + 1)) (.lc [3, 4] (.v 4) (.cons (.v 3) (.cons (.v 4) .nil)) (.seq (.v 1)) .non) [.fz (.list (w.map prD)), .fz (.list ((nrm w).map prD)), .fz (.int (gcdL ((posW w).map (·.2)) : Int)), t3, t4, .un] = some (.list (((nrm w).map (·.2)).map PyData.int)) := by
    rw [List.map_map]
    refine ev_lc (ds := (nrm w).map prD) rfl (compL_all (nrm w) fun q hq => ?_)
    unfold stepL prD
    simp [-List.map_map, xcall, xv, xnon, xbl, xint, xstr, xg, xop, xcmp, xchain, xisN, xnotN, xand, xor, xnot, xite, xbi, xisi, xtup, xlst, xix, xsl, xrev, xget, xlvals, xoget, xolen, evs, evO, evC, evS, evSs, evR, bindP, unpD, freeze, wipeE, En.get, En.own, asB, asI, isNo]
  have e5 : biD (Gk (pl "_law_made" + 1)).tups .sum [.list (((nrm w).map (·.2)).map PyData.int)] = some (.int (tot (nrm w))) := by
    simp only [biD, allInts_ints, Option.map_some]
    rfl
  have e6 : biD (Gk (pl "_law_made" + 1)).tups .tuple [.list ((nrm w).map prD)] = some (rowsD (nrm w)) := rfl
  refine evSs_rt ?_
  simp [-List.map_map, xcall, xv, xnon, xbl, xint, xstr, xg, xop, xcmp, xchain, xisN, xnotN, xand, xor, xnot, xite, xbi, xisi, xtup, xlst, xix, xsl, xrev, xget, xlvals, xoget, xolen, evs, evO, evC, evS, evSs, evR, bindP, unpD, freeze, wipeE, En.get, En.own, asB, asI, isNo, e4, e5, e6]
  rfl
theorem Rt_sz {M1 M2 : Nat} (h1 : 0 < M1) (h2 : 0 < M2) (hM1 : M1 < 2 ^ 64) (hM2 : M2 < 2 ^ 64) {one two : Wt} (s1 : Sp one M1) (s2 : Sp two M2) (sub : ∀ q ∈ one, q.1 ∈ two.map (·.1)) : Sz 128 (RtQ one two) := by
  obtain ⟨_, _, h3⟩ := mx_le ((rtS one two).map (·.2)) 0
  rcases h3 with e | e
  · have : RtQ one two = 0 := e
    rw [this]
    exact ((bd0 1 0).sz (by decide) (n := 2) (m := 2) (by decide) (by decide)).mono (by decide)
  · obtain ⟨k, hk, e⟩ := (rt_mem s1.vs).mp e
    have e : RtQ one two = pr one k / pr two k := e
    obtain ⟨q, hq, e2⟩ := List.mem_map.mp hk
    subst e2
    obtain ⟨v, hv⟩ := lookup_of_mem (sub q hq)
    have hv2 : (q.1, v) ∈ two := (lookup_mem_iff s2.vs.nd).mp hv
    obtain ⟨t1, u1⟩ := tot_bd h1 s1
    obtain ⟨t2, u2⟩ := tot_bd h2 s2
    obtain ⟨p1, p2⟩ := mem_le_tot s1.vs hq
    obtain ⟨p3, p4⟩ := mem_le_tot s2.vs hv2
    simp only at p3 p4
    have ep1 : pr one q.1 = (q.2 : Rat) / (tot one : Rat) := by rw [← pr_mem s1.vs hq, Rat.mkRat_eq_div, s1.vs.tr]
    have ep2 : pr two q.1 = (v : Rat) / (tot two : Rat) := by rw [← pr_mem s2.vs hv2, Rat.mkRat_eq_div, s2.vs.tr]
    rw [e, ep1, ep2, ← mkRat_ratio t1 (by omega) t2]
    have n1 : (q.2 * tot two).natAbs < 2 ^ 128 := natAbs_mul_lt (n := 64) (m := 64) (by omega) (by omega)
    have n2 : (v * tot one).natAbs < 2 ^ 128 := natAbs_mul_lt (n := 64) (m := 64) (by omega) (by omega)
    exact mkRat_sz (n := 128) n1 (by omega) (by decide)
end PL


set_option Elab.async false
set_option linter.all false
set_option maxRecDepth 100000
set_option exponentiation.threshold 20000
/-! P0: left_over; a spread that the law draws; equality. -/
namespace PL
open PySem
theorem ife_no {G : Gb} {c : Ex} {a b : Ss} {ρ : En} (h : ev G c ρ = some (.bool false)) : evS G (.ife c a b) ρ = evSs G b ρ := by
  simp only [evS, h, asB, Option.bind_some, Bool.false_eq_true, if_false]
theorem ife_nil {G : Gb} {c : Ex} {a : Ss} {ρ : En} (h : ev G c ρ = some (.bool false)) : evS G (.ife c a .nil) ρ = some (.nx ρ) := by
  rw [ife_no h]
  rfl
theorem ev_cmp {G : Gb} {c : Cp} {a b : Ex} {ρ : En} {x y : D} {r : Bool} (h1 : ev G a ρ = some x) (h2 : ev G b ρ = some y) (h3 : cmpD G.tups c x y = some r) : ev G (.cmp c a b) ρ = some (.bool r) := by
  rw [xcmp, h1, Option.bind_some, h2, Option.bind_some, h3]
  rfl
theorem ev_or_ff {G : Gb} {a b : Ex} {ρ : En} (h1 : ev G a ρ = some (.bool false)) (h2 : ev G b ρ = some (.bool false)) : ev G (.or_ a b) ρ = some (.bool false) := by
  rw [xor, h1, h2]
  rfl
theorem ev_vv {G : Gb} {ρ : En} {i : Nat} {d : D} (h : ρ.get i = some d) : ev G (.v i) ρ = some d := by rw [xv, h]
theorem ev_ii {G : Gb} {ρ : En} {z : Int} : ev G (.int z) ρ = some (.int z) := xint
theorem ev_call1 {G : Gb} {ρ : En} {f : Str} {a : Ex} {x r : D} (h1 : ev G a ρ = some x) (h : ap G f [x] = some r) : ev G (.call f (.cons a .nil)) ρ = some r := by
  rw [xcall]
  simp only [evs, h1, Option.bind_some, Option.map_some, h]
theorem ev_call2 {G : Gb} {ρ : En} {f : Str} {a b : Ex} {x y r : D} (h1 : ev G a ρ = some x) (h2 : ev G b ρ = some y) (h : ap G f [x, y] = some r) : ev G (.call f (.cons a (.cons b .nil))) ρ = some r := by
  rw [xcall]
  simp only [evs, h1, h2, Option.bind_some, Option.map_some, h]
theorem ev_call3 {G : Gb} {ρ : En} {f : Str} {a b c : Ex} {x y z r : D} (h1 : ev G a ρ = some x) (h2 : ev G b ρ = some y) (h3 : ev G c ρ = some z) (h : ap G f [x, y, z] = some r) : ev G (.call f (.cons a (.cons b (.cons c .nil)))) ρ = some r := by
  rw [xcall]
  simp only [evs, h1, h2, h3, Option.bind_some, Option.map_some, h]
theorem ev_tup_of {G : Gb} {ρ : En} {a : Ex} {l : List D} (h : ev G a ρ = some (.list l)) : ev G (.bi .tuple (.cons a .nil)) ρ = some (.tuple l) := by
  rw [xbi]
  simp only [evs, h, Option.bind_some, Option.map_some]
  rfl
theorem ev_tup2 {G : Gb} {ρ : En} {a b : Ex} {x y : D} (h1 : ev G a ρ = some x) (h2 : ev G b ρ = some y) : ev G (.tup (.cons a (.cons b .nil))) ρ = some (.tuple [x, y]) := by
  rw [xtup]
  simp only [evs, h1, h2, Option.bind_some, Option.map_some]
theorem ev_ixx {G : Gb} {ρ : En} {a b : Ex} {x y z : D} (h1 : ev G a ρ = some x) (h2 : ev G b ρ = some y) (h : ixD G.tups x y = some z) : ev G (.ix a b) ρ = some z := by
  rw [xix, h1, Option.bind_some, h2, Option.bind_some, h]
theorem ev_opp {G : Gb} {ρ : En} {o : Op2} {a b : Ex} {x y z : D} (h1 : ev G a ρ = some x) (h2 : ev G b ρ = some y) (h : opD o x y = some z) : ev G (.op o a b) ρ = some z := by
  rw [xop, h1, Option.bind_some, h2, Option.bind_some, h]
theorem ev_asg {G : Gb} {ρ : En} {i : Nat} {e : Ex} {d : D} (h : ev G e ρ = some d) : evS G (.asg (.v i) e) ρ = some (.nx (ρ.set i (.fz d))) := by
  simp only [evS, h, Option.bind_some, bindP, Option.map_some]
theorem ev_tuple_rng {G : Gb} {ρ : En} {own : List Nat} {e a : Ex} {i m : Nat} {g : Nat → D} (hm : m ≤ 1000) (ha : ev G a ρ = some (.int (m : Int))) (h : ∀ x, x < m → stepL own (.v i) (fun ρ1 => evC G .non ρ1) (fun ρ1 => ev G e ρ1) ρ (.int (x : Int)) = some (some (g x))) : ev G (.lc own e (.v i) (.rng1 a) .non) ρ = some (.list ((List.range m).map g)) := by
  refine ev_lc (ev_rng ha hm) (compL_all (List.range m) fun x hx => h x (List.mem_range.mp hx))
theorem draw_at {T : List D} {ds : List Int} {i : Nat} (h : i < ds.length) : ∃ z : Int, ixD T (.list (ds.map PyData.int)) (.int (i : Int)) = some (.int z) := ⟨ds[i], atI_nat _ (by rw [List.getElem?_map, List.getElem?_eq_getElem h]; rfl)⟩
theorem a_chkr {r : Rat} (h : 0 ≤ r) : ∀ k, k ≤ pl "_check_ratio" → ap (Gk k) "_check_ratio" [fr r] = some .none := by
  refine at_ rfl rfl ?_
  have c := a_isch h _ (show pl "_check_ratio" + 1 ≤ pl "is_chance" by decide +kernel)
  unfold K03.f__check_ratio K03.b__check_ratio
  simp [-List.map_map, xcall, xv, xnon, xbl, xint, xstr, xg, xop, xcmp, xchain, xisN, xnotN, xand, xor, xnot, xite, xbi, xisi, xtup, xlst, xix, xsl, xrev, xget, xlvals, xoget, xolen, evs, evO, evC, evS, evSs, evR, bindP, unpD, freeze, wipeE, En.get, En.own, asB, asI, isNo, run, c]
theorem a_over {M1 M2 A : Nat} (h1 : 0 < M1) (h2 : 0 < M2) (hA : 0 < A) (hM : M1 * (A * M2) < 2 ^ 64) {one two : Wt} (s1 : Sp one M1) (s2 : Sp two M2) {r : Rat} (r0 : 0 ≤ r) (rd : r.den ∣ A) (rb : r ≤ (1000 : Nat)) : ∀ k, k ≤ pl "left_over" → ap (Gk k) "left_over" [spD one, spD two, fr r] = some (fr (Lf one two r)) := by
  refine at_ rfl rfl ?_
  have e1 := a_both s1.vs s2.vs _ (show pl "left_over" + 1 ≤ pl "_check_both" by decide +kernel)
  have e2 := a_chkr r0 _ (show pl "left_over" + 1 ≤ pl "_check_ratio" by decide +kernel)
  have e3 := a_leftby h1 h2 hA hM s1 s2 r0 rd rb _ (show pl "left_over" + 1 ≤ pl "left_by" by decide +kernel)
  refine run_of (ρ := [.fz (spD one), .fz (spD two), .fz (fr r)]) rfl rfl ?_
  unfold K03.f_left_over K03.b_left_over
  rw [evSs_nx (ρ' := [.fz (spD one), .fz (spD two), .fz (fr r)]) (by simp [-List.map_map, xcall, xv, xnon, xbl, xint, xstr, xg, xop, xcmp, xchain, xisN, xnotN, xand, xor, xnot, xite, xbi, xisi, xtup, xlst, xix, xsl, xrev, xget, xlvals, xoget, xolen, evs, evO, evC, evS, evSs, evR, bindP, unpD, freeze, wipeE, En.get, En.own, asB, asI, isNo, e1])]
  rw [evSs_nx (ρ' := [.fz (spD one), .fz (spD two), .fz (fr r)]) (by simp [-List.map_map, xcall, xv, xnon, xbl, xint, xstr, xg, xop, xcmp, xchain, xisN, xnotN, xand, xor, xnot, xite, xbi, xisi, xtup, xlst, xix, xsl, xrev, xget, xlvals, xoget, xolen, evs, evO, evC, evS, evSs, evR, bindP, unpD, freeze, wipeE, En.get, En.own, asB, asI, isNo, e2])]
  refine evSs_rt ?_
  simp [-List.map_map, xcall, xv, xnon, xbl, xint, xstr, xg, xop, xcmp, xchain, xisN, xnotN, xand, xor, xnot, xite, xbi, xisi, xtup, xlst, xix, xsl, xrev, xget, xlvals, xoget, xolen, evs, evO, evC, evS, evSs, evR, bindP, unpD, freeze, wipeE, En.get, En.own, asB, asI, isNo, e3]
theorem Lf_nn (one two : Wt) (r : Rat) : 0 ≤ Lf one two r := sum_nn fun x hx => by
  obtain ⟨j, _, e⟩ := List.mem_map.mp hx
  exact e ▸ ppt_nn _
theorem Lf_le {one two : Wt} {M : Nat} (s1 : Sp one M) (v2 : Vs two) {r : Rat} (r0 : 0 ≤ r) : Lf one two r ≤ 1 := by
  rw [← pr_sum s1]
  unfold Lf
  refine smR_le fun j _ _ => ppt_le ?_ (pr_nn s1.vs j)
  have := Rat.mul_nonneg r0 (pr_nn v2 j)
  grind
theorem smR_dvd {n M : Nat} {f : Int → Rat} (h : ∀ j, (f j).den ∣ M) : (smR n f).den ∣ M := sum_dvd fun r hr => by
  obtain ⟨x, _, e⟩ := List.mem_map.mp hr
  exact e ▸ h x
theorem Lf_bd {M1 M2 A : Nat} {one two : Wt} (s1 : Sp one M1) (s2 : Sp two M2) {r : Rat} (r0 : 0 ≤ r) (rd : r.den ∣ A) : Bd (M1 * (A * M2)) 1 (Lf one two r) := by
  refine ⟨Lf_nn _ _ _, by simpa using Lf_le s1 s2.vs r0, smR_dvd fun j => ?_⟩
  unfold ppt
  split
  · exact dvd_sub (Nat.dvd_trans (pr_bd s1 j).dv (Nat.dvd_mul_right _ _)) (Nat.dvd_trans (dvd_mul rd (pr_bd s2 j).dv) (Nat.dvd_mul_left _ _))
  · exact dvd_zero _
/-! ### equality of data -/
theorem eqv_rows : ∀ w w' : Wt, PyData.eqvAll (w.map prD) (w'.map prD) = decide (w = w')
  | [], [] => rfl
  | [], q :: r => by simp [PyData.eqvAll]
  | q :: r, [] => by simp [PyData.eqvAll]
  | (a, b) :: r, (c, d) :: s => by
    have ih := eqv_rows r s
    simp only [List.map_cons, PyData.eqvAll, prD, PyData.eqv, ih, Bool.and_true]
    by_cases h1 : a = c <;> by_cases h2 : b = d <;> by_cases h3 : r = s <;> simp [h1, h2, h3]
theorem eqv_sp (w w' : Wt) : PyData.eqv (spD w) (spD w') = decide (w = w') := by
  have h := eqv_rows w w'
  simp only [spD, rowsD, PyData.eqv, PyData.eqvAll, h, Bool.and_true]
  by_cases e : w = w'
  · subst e; simp
  · simp [e]
theorem eq_sp {T : List D} (w w' : Wt) : cmpD T .eq (spD w) (spD w') = some (decide (w = w')) := by
  simp only [cmpD, sp_shaped, Bool.and_self, if_true, eqv_sp]
theorem eqv_fr (r s : Rat) : PyData.eqv (fr r) (fr s) = decide (r = s) := by
  simp only [fr, PyData.eqv, PyData.eqvAll, Bool.and_true]
  by_cases e : r = s
  · subst e; simp
  · rw [decide_eq_false e]
    by_cases h1 : r.num = s.num
    · have h2 : ¬ r.den = s.den := fun h2 => e (Rat.ext h1 h2)
      have h3 : ¬ (r.den : Int) = (s.den : Int) := fun h => h2 (by exact_mod_cast h)
      simp [h3]
    · simp [h1]
theorem eq_fr {T : List D} (r s : Rat) : cmpD T .eq (fr r) (fr s) = some (decide (r = s)) := by
  simp only [cmpD, fr_shaped, Bool.and_self, if_true, eqv_fr]
theorem ne_bool {T : List D} (a : Bool) : cmpD T .ne (.bool a) (.bool a) = some false := by cases a <;> rfl
theorem neg_num {r : Rat} : r.num < 0 ↔ r < 0 := by
  have h := Rat.num_nonneg (q := r)
  constructor
  · intro h1
    refine Decidable.byContradiction fun h2 => ?_
    have := h.mpr (by grind)
    omega
  · intro h1
    refine Decidable.byContradiction fun h2 => ?_
    have := h.mp (by omega)
    grind
theorem mk_mul {a : Int} {b : Nat} (hb : 0 < b) : mkRat a b * (b : Rat) = (a : Rat) := by
  have hb' : (b : Rat) ≠ 0 := by exact_mod_cast (Nat.ne_of_gt hb)
  rw [Rat.mkRat_eq_div]
  grind
theorem mk_nn {a : Int} {b : Nat} (hb : 0 < b) (h0 : 0 ≤ a) : 0 ≤ mkRat a b := by
  have hb' : (0 : Rat) < (b : Rat) := by exact_mod_cast hb
  have h0' : (0 : Rat) ≤ (a : Rat) := by exact_mod_cast h0
  have e := mk_mul (a := a) hb
  refine Decidable.byContradiction fun h => ?_
  have := Rat.mul_lt_mul_of_pos_right (show mkRat a b < 0 by grind) hb'
  grind
theorem mk_pos {a : Int} {b : Nat} (hb : 0 < b) (h0 : 0 < a) : 0 < mkRat a b := by
  have h1 := mk_nn hb (Int.le_of_lt h0)
  refine Decidable.byContradiction fun h => ?_
  have e := mk_mul (a := a) hb
  have e2 : mkRat a b = 0 := by grind
  rw [e2] at e
  have : ((a : Int) : Rat) = ((0 : Int) : Rat) := by push_cast; grind
  have : a = 0 := by exact_mod_cast this
  omega
theorem mk_le {a : Int} {b c : Nat} (hb : 0 < b) (h0 : a ≤ (c : Int) * b) : mkRat a b ≤ (c : Rat) := by
  have hb' : (0 : Rat) < (b : Rat) := by exact_mod_cast hb
  have h0' : (a : Rat) ≤ (c : Rat) * (b : Rat) := by
    have : ((a : Int) : Rat) ≤ (((c : Int) * (b : Int) : Int) : Rat) := by exact_mod_cast h0
    push_cast at this
    exact this
  have e := mk_mul (a := a) hb
  refine Decidable.byContradiction fun h => ?_
  have := Rat.mul_lt_mul_of_pos_right (show (c : Rat) < mkRat a b by grind) hb'
  grind
/-- a fraction turned about -/
theorem fr_inv {r : Rat} (h : 0 < r) : fr (1 / r) = .tuple [.int (r.den : Int), .int r.num] ∧ (1 / r).den = r.num.toNat := by
  have hn : 0 < r.num := by
    have h1 := Rat.num_nonneg.mpr (Rat.le_of_lt h)
    have h2 : r.num ≠ 0 := fun e => by
      have := Rat.num_eq_zero.mp e
      grind
    omega
  have hm : r.num.natAbs = r.num.toNat := by omega
  have hp : 0 < r.num.toNat := by omega
  have e : 1 / r = mkRat (r.den : Int) r.num.toNat := by
    rw [Rat.mkRat_eq_div]
    have e1 := den_mul r
    have e2 : ((r.num.toNat : Nat) : Rat) = (r.num : Rat) := by rw [← Rat.intCast_natCast, Int.toNat_of_nonneg (by omega)]
    have h1 : (r.den : Rat) ≠ 0 := by exact_mod_cast r.den_nz
    have h2 : r ≠ 0 := by grind
    rw [e2, ← e1]
    push_cast
    grind
  have g : Nat.gcd ((r.den : Int)).natAbs r.num.toNat = 1 := by
    rw [Int.natAbs_natCast, Nat.gcd_comm, ← hm]
    exact r.reduced
  have f := fr_div (r.den : Int) r.num.toNat hp
  rw [g, ← e] at f
  have f2 : fr (1 / r) = .tuple [.int (r.den : Int), .int r.num] := by
    rw [f]
    simp
    omega
  refine ⟨f2, ?_⟩
  have : ((1 / r).den : Int) = r.num := by
    have := f2
    unfold fr at this
    simp only [PyData.tuple.injEq, List.cons.injEq, PyData.int.injEq, and_true] at this
    exact this.2
  omega
end PL


set_option Elab.async false
set_option linter.all false
set_option maxRecDepth 100000
set_option exponentiation.threshold 20000
/-! R1: greatest ratios, the laws; a full spread that the law draws; where the ratio is the greatest. -/
namespace PL
open PySem
theorem mul_small {a b : Int} (h1 : a.natAbs < 2 ^ 10) (h2 : b.natAbs < 2 ^ 10) : opD .mul (.int a) (.int b) = some (.int (a * b)) := mul_ok h1 h2 (by decide) (by decide) (by decide)
/-- all values of the one have a chance in the other -/
abbrev Sub (one two : Wt) : Prop := ∀ q ∈ one, q.1 ∈ two.map (·.1)
theorem sub_of {one two : Wt} {M1 M2 : Nat} (s1 : Sp one M1) (s2 : Sp two M2) (h : ∀ k, 0 < pr one k → 0 < pr two k) : Sub one two := fun q hq =>
  (pr_mem_iff s2.vs).mpr (h _ ((pr_mem_iff s1.vs).mp (List.mem_map_of_mem (f := Prod.fst) hq)))
theorem Sub.key {one two : Wt} (sub : Sub one two) {k : Int} (hk : k ∈ one.map (·.1)) : k ∈ two.map (·.1) := by
  obtain ⟨q, hq, e⟩ := List.mem_map.mp hk
  exact e ▸ sub q hq
theorem RtQ_le {one two : Wt} {M1 M2 : Nat} (s1 : Sp one M1) (s2 : Sp two M2) (sub : Sub one two) {r : Rat} (h : ∀ k, pr one k ≤ r * pr two k) : RtQ one two ≤ r := by
  obtain ⟨_, _, k, hk, e⟩ := Rt_spec s1 s2 sub
  have p2 := pr_pos s2.vs (sub.key hk)
  have := h k
  rw [e] at this
  exact Rat.le_of_mul_le_mul_right this p2
theorem RtQ_uniq {one two : Wt} {M1 M2 : Nat} (s1 : Sp one M1) (s2 : Sp two M2) (sub : Sub one two) {r : Rat} (h : ∀ k, pr one k ≤ r * pr two k) {k : Int} (hk : k ∈ one.map (·.1)) (e : pr one k = r * pr two k) : RtQ one two = r := by
  have h1 := RtQ_le s1 s2 sub h
  obtain ⟨_, h2, _⟩ := Rt_spec s1 s2 sub
  have p2 := pr_pos s2.vs (sub.key hk)
  have h3 := h2 k
  rw [e] at h3
  have h4 := Rat.le_of_mul_le_mul_right h3 p2
  grind
theorem RtQ_pos {one two : Wt} {M1 M2 : Nat} (s1 : Sp one M1) (s2 : Sp two M2) (sub : Sub one two) : 0 < RtQ one two := by
  obtain ⟨h0, _, k, hk, e⟩ := Rt_spec s1 s2 sub
  have p1 := pr_pos s1.vs hk
  refine Decidable.byContradiction fun z => ?_
  have : RtQ one two = 0 := by grind
  rw [this] at e
  grind
theorem RtQ_ge1 {one two : Wt} {M1 M2 : Nat} (s1 : Sp one M1) (s2 : Sp two M2) (sub : Sub one two) : 1 ≤ RtQ one two := by
  obtain ⟨_, h2, _⟩ := Rt_spec s1 s2 sub
  have h3 : smR 60 (pr one) ≤ smR 60 (fun j => RtQ one two * pr two j) := smR_le fun j _ _ => h2 j
  rw [smR_mul, pr_sum s1, pr_sum s2] at h3
  grind
theorem RtQ_one {one two : Wt} {M1 M2 : Nat} (s1 : Sp one M1) (s2 : Sp two M2) (sub : Sub one two) : RtQ one two = 1 ↔ one = two := by
  constructor
  · intro e
    obtain ⟨_, h2, _⟩ := Rt_spec s1 s2 sub
    rw [e] at h2
    have le : ∀ j, pr one j ≤ pr two j := fun j => by have := h2 j; grind
    refine Vs.ext s1.vs s2.vs fun k => ?_
    by_cases hk : 0 ≤ k ∧ k < (60 : Nat)
    · refine Decidable.byContradiction fun ne => ?_
      have lt : pr one k < pr two k := by have := le k; grind
      have s := smR_one (n := 60) k hk.1 hk.2 (pr two k - pr one k)
      have s3 : smR 60 (fun j => pr one j + if j = k then pr two k - pr one k else 0) ≤ smR 60 (pr two) := smR_le fun j _ _ => by
        by_cases e : j = k
        · rw [if_pos e, e]; grind
        · rw [if_neg e]; have := le j; grind
      rw [smR_add, s, pr_sum s1, pr_sum s2] at s3
      grind
    · rw [pr_out s1 hk, pr_out s2 hk]
  · intro e
    subst e
    obtain ⟨_, _, k, hk, _⟩ := Rt_spec s1 s2 sub
    exact RtQ_uniq s1 s2 sub (fun k => by grind) hk (by grind)
theorem RtQ_tri {one two three : Wt} {M1 M2 M3 : Nat} (s1 : Sp one M1) (s2 : Sp two M2) (s3 : Sp three M3) (h12 : Sub one two) (h23 : Sub two three) (h13 : Sub one three) : RtQ one three ≤ RtQ one two * RtQ two three := by
  obtain ⟨a0, a1, _⟩ := Rt_spec s1 s2 h12
  obtain ⟨_, b1, _⟩ := Rt_spec s2 s3 h23
  refine RtQ_le s1 s3 h13 fun k => ?_
  have := Rat.mul_le_mul_of_nonneg_left (b1 k) a0
  have := a1 k
  grind
/-- the greatest ratio's size -/
theorem RtQ_bd {M1 M2 : Nat} (h1 : 0 < M1) (h2 : 0 < M2) {one two : Wt} (s1 : Sp one M1) (s2 : Sp two M2) (sub : Sub one two) : RtQ one two ≤ ((M2 : Nat) : Rat) ∧ (RtQ one two).den ≤ M1 * M2 := by
  obtain ⟨h0, _, k, hk, e⟩ := Rt_spec s1 s2 sub
  obtain ⟨q, hq, e2⟩ := List.mem_map.mp hk
  subst e2
  obtain ⟨v, hv⟩ := lookup_of_mem (sub q hq)
  have hv2 : (q.1, v) ∈ two := (lookup_mem_iff s2.vs.nd).mp hv
  obtain ⟨t1, u1⟩ := tot_bd h1 s1
  obtain ⟨t2, u2⟩ := tot_bd h2 s2
  obtain ⟨p1, p2⟩ := mem_le_tot s1.vs hq
  obtain ⟨p3, p4⟩ := mem_le_tot s2.vs hv2
  simp only at p3 p4
  have ep1 : pr one q.1 = (q.2 : Rat) / (tot one : Rat) := by rw [← pr_mem s1.vs hq, Rat.mkRat_eq_div, s1.vs.tr]
  have ep2 : pr two q.1 = (v : Rat) / (tot two : Rat) := by rw [← pr_mem s2.vs hv2, Rat.mkRat_eq_div, s2.vs.tr]
  have pp := pr_pos s2.vs (sub.key hk)
  have er : RtQ one two = pr one q.1 / pr two q.1 := by rw [e]; grind
  have mp : 0 < v * tot one := Int.mul_pos (by omega) t1
  rw [er, ep1, ep2, ← mkRat_ratio t1 (by omega) t2]
  have hp : 0 < (v * tot one).toNat := by omega
  have hvt : (v * tot one).natAbs ≤ M2 * M1 := by
    rw [Int.natAbs_mul]
    exact Nat.mul_le_mul (by omega) u1
  refine ⟨mk_le hp ?_, ?_⟩
  · rw [Int.toNat_of_nonneg (Int.le_of_lt mp)]
    have g1 : q.2 * tot two ≤ tot one * (M2 : Int) := Int.mul_le_mul p2 (by omega) (by omega) (by omega)
    have g2 : tot one * 1 ≤ tot one * v := Int.mul_le_mul_of_nonneg_left p3 (by omega)
    have g3 : (M2 : Int) * (tot one * 1) ≤ (M2 : Int) * (tot one * v) := Int.mul_le_mul_of_nonneg_left g2 (by omega)
    have g4 : (M2 : Int) * (v * tot one) = (M2 : Int) * (tot one * v) := by rw [Int.mul_comm v]
    have g5 : tot one * (M2 : Int) = (M2 : Int) * (tot one * 1) := by rw [Int.mul_one, Int.mul_comm]
    omega
  · have := Nat.le_of_dvd hp (mkRat_dvd (q.2 * tot two) hp)
    have e9 : M2 * M1 = M1 * M2 := Nat.mul_comm _ _
    omega
/-- a spread that the law draws, with all of so many numbers -/
theorem a_full {ds : List Int} {n : Nat} (n1 : 1 ≤ n) (n20 : n ≤ 20) (hd : n ≤ ds.length) : ∃ w M, 0 < M ∧ M ≤ 6 * n ∧ Sp w M ∧ (∀ k : Int, 0 < pr w k ↔ 0 ≤ k ∧ k < n) ∧ ∀ k, k ≤ pl "_law_full" → ap (Gk k) "_law_full" [.list (ds.map PyData.int), .int (n : Int)] = some (spD w) := by
  obtain ⟨v, hv⟩ : ∃ v : Nat → Int, ∀ x : Nat, x < n → (1 ≤ v x ∧ v x ≤ 6) ∧ ∃ a : Int, ixD (Gk (pl "_law_full" + 1)).tups (.list (ds.map PyData.int)) (.int (x : Int)) = some (.int a) ∧ v x = 1 + a % 6 := by
    classical
    have hx : ∀ x : Nat, x < n → ∃ a : Int, ixD (Gk (pl "_law_full" + 1)).tups (.list (ds.map PyData.int)) (.int (x : Int)) = some (.int a) := fun x hx => draw_at (by omega)
    refine ⟨fun x => if h : x < n then 1 + (hx x h).choose % 6 else 0, fun x h => ?_⟩
    simp only [dif_pos h]
    exact ⟨by omega, _, (hx x h).choose_spec, rfl⟩
  obtain ⟨w, hw⟩ : ∃ w : Wt, w = (List.range n).map fun x : Nat => ((x : Int), v x) := ⟨_, rfl⟩
  have kw : w.map (·.1) = (List.range n).map fun x : Nat => (x : Int) := by rw [hw, List.map_map]; rfl
  have inc : (w.map (·.1)).Pairwise (· < ·) := by
    rw [kw, List.pairwise_map]
    exact List.pairwise_lt_range.imp fun h => by omega
  have mem : ∀ q ∈ w, (0 ≤ q.1 ∧ q.1 < n) ∧ 1 ≤ q.2 ∧ q.2 ≤ 6 := fun q hq => by
    rw [hw] at hq
    obtain ⟨x, hx, e⟩ := List.mem_map.mp hq
    have hx := List.mem_range.mp hx
    have := (hv x hx).1
    subst e
    exact ⟨⟨by simp only; omega, by simp only; omega⟩, this⟩
  have hl : w.length = n := by rw [hw]; simp
  have tb : (w.length : Int) ≤ tot w ∧ tot w ≤ 6 * w.length := by
    have : ∀ l : Wt, (∀ q ∈ l, 1 ≤ q.2 ∧ q.2 ≤ 6) → (l.length : Int) ≤ tot l ∧ tot l ≤ 6 * l.length := by
      intro l
      induction l with
      | nil => intro _; simp [tot]
      | cons q r ih =>
        intro h
        have h1 := h q List.mem_cons_self
        have h2 := ih fun x hx => h x (List.mem_cons_of_mem _ hx)
        simp only [tot, List.map_cons, List.sum_cons, List.length_cons] at h2 ⊢
        omega
    exact this w fun q hq => (mem q hq).2
  rw [hl] at tb
  have ht : 0 < tot w := by omega
  have nd : (w.map (·.1)).Nodup := inc.imp fun h => Int.ne_of_lt h
  obtain ⟨sp, pp, hp⟩ := nrm_sp (w := w) (M := (tot w).toNat) nd (fun k hk => by
    obtain ⟨q, hq, e⟩ := List.mem_map.mp hk
    have := mem q hq
    omega) (fun q hq => by have := (mem q hq).2.1; omega) ht (Nat.dvd_refl _)
  have e1 : ev (Gk (pl "_law_full" + 1)) (.lc [2] (.tup (.cons (.v 2) (.cons (.op .add (.int 1) (.op .mod (.bi .int (.cons (.ix (.v 0) (.v 2)) .nil)) (.int 6))) .nil))) (.v 2) (.rng1 (.v 1)) .non) [.fz (.list (ds.map PyData.int)), .fz (.int (n : Int)), .un] = some (.list (w.map prD)) := by
    rw [hw, List.map_map]
    refine ev_tuple_rng (by omega) (by rw [xv]; rfl) fun x hx => ?_
    obtain ⟨_, a, h1, h3⟩ := hv x hx
    unfold stepL
    simp [-List.map_map, xcall, xv, xnon, xbl, xint, xstr, xg, xop, xcmp, xchain, xisN, xnotN, xand, xor, xnot, xite, xbi, xisi, xtup, xlst, xix, xsl, xrev, xget, xlvals, xoget, xolen, evs, evO, evC, evS, evSs, evR, bindP, unpD, freeze, wipeE, En.get, En.own, asB, asI, isNo, h1, int_int, add_i, mod_i (show (0 : Int) < 6 by decide), h3, prD]
  refine ⟨nrm w, (tot w).toNat, by omega, by omega, sp, fun k => ?_, at_ rfl rfl ?_⟩
  · have ht' : (0 : Rat) < ((tot w : Int) : Rat) := by exact_mod_cast ht
    rw [pp]
    constructor
    · intro h
      refine Decidable.byContradiction fun z => ?_
      have : valW w k = 0 := valW_none fun hk => by
        obtain ⟨q, hq, e⟩ := List.mem_map.mp hk
        have := mem q hq
        omega
      rw [this] at h
      have e0 : ((0 : Int) : Rat) = 0 := rfl
      rw [e0] at h
      grind
    · intro h
      have hk : k ∈ w.map (·.1) := by
        rw [kw, List.mem_map]
        exact ⟨k.toNat, List.mem_range.mpr (by omega), by omega⟩
      obtain ⟨x, hx⟩ := lookup_of_mem hk
      have := (mem _ ((lookup_mem_iff nd).mp hx)).2.1
      have e : valW w k = x := by unfold valW; rw [hx]; rfl
      rw [e]
      exact div_pos' (by exact_mod_cast (show (0 : Int) < x by simp only at this; omega)) ht'
  · have c1 := a_made inc (fun q hq => ⟨by have := (mem q hq).2.1; omega, by have := (mem q hq).2.2; omega⟩) hp _ (show pl "_law_full" + 1 ≤ pl "_law_made" by decide +kernel)
    refine run_of (ρ := [.fz (.list (ds.map PyData.int)), .fz (.int (n : Int)), .un]) rfl rfl ?_
    unfold K03.f__law_full K03.b__law_full
    refine evSs_rt ?_
    simp only [evS]
    rw [ev_call1 e1 c1]
    rfl
/-! where the ratio is the greatest one -/
theorem a_ratioat {M1 M2 : Nat} (h1 : 0 < M1) (h2 : 0 < M2) (hM1 : M1 < 2 ^ 64) (hM2 : M2 < 2 ^ 64) {one two : Wt} (s1 : Sp one M1) (s2 : Sp two M2) (sub : Sub one two) : ∃ j : Int, pr one j = RtQ one two * pr two j ∧ ∀ k, k ≤ pl "ratio_at" → ap (Gk k) "ratio_at" [spD one, spD two] = some (.int j) := by
  have e1 := a_both s1.vs s2.vs _ (show pl "ratio_at" + 1 ≤ pl "_check_both" by decide +kernel)
  have e2 := a_ratioby h1 h2 hM1 hM2 s1 s2 sub _ (show pl "ratio_at" + 1 ≤ pl "ratio_by" by decide +kernel)
  have e3 := a_ratios h1 h2 hM1 hM2 s1 s2 sub _ (show pl "ratio_at" + 1 ≤ pl "ratios_of" by decide +kernel)
  obtain ⟨js, hjs⟩ : ∃ js : List Int, js = (rtS one two).filterMap fun q => if q.2 = RtQ one two then some q.1 else none := ⟨_, rfl⟩
  have ne : js ≠ [] := by
    obtain ⟨h0, _, k, hk, e⟩ := Rt_spec s1 s2 sub
    have pk := pr_pos s2.vs (sub.key hk)
    have e4 : pr one k / pr two k = RtQ one two := by rw [e]; grind
    have : k ∈ js := by
      rw [hjs, List.mem_filterMap]
      obtain ⟨q, hq, ek⟩ := List.mem_map.mp hk
      refine ⟨(k, pr one k / pr two k), ?_, by rw [if_pos e4]⟩
      rw [← rt_same s1.vs, List.mem_map]
      exact ⟨q, hq, by rw [ek]⟩
    intro z
    rw [z] at this
    cases this
  obtain ⟨j, r, ej⟩ := List.exists_cons_of_ne_nil ne
  refine ⟨j, ?_, at_ rfl rfl ?_⟩
  · have hj : j ∈ js := by rw [ej]; exact List.mem_cons_self
    rw [hjs, List.mem_filterMap] at hj
    obtain ⟨q, hq, e⟩ := hj
    split at e
    · rename_i hr
      cases e
      rw [← rt_same s1.vs, List.mem_map] at hq
      obtain ⟨p, hp, e5⟩ := hq
      subst e5
      have pk := pr_pos s2.vs (sub p hp)
      simp only at hr ⊢
      rw [← hr]
      grind
    · cases e
  · refine run_of (ρ := [.fz (spD one), .fz (spD two), .un, .un, .un]) rfl rfl ?_
    unfold K03.f_ratio_at K03.b_ratio_at
    rw [evSs_nx (ρ' := [.fz (spD one), .fz (spD two), .un, .un, .un]) (by simp [-List.map_map, xcall, xv, xnon, xbl, xint, xstr, xg, xop, xcmp, xchain, xisN, xnotN, xand, xor, xnot, xite, xbi, xisi, xtup, xlst, xix, xsl, xrev, xget, xlvals, xoget, xolen, evs, evO, evC, evS, evSs, evR, bindP, unpD, freeze, wipeE, En.get, En.own, asB, asI, isNo, e1])]
    rw [evSs_nx (ρ' := [.fz (spD one), .fz (spD two), .fz (fr (RtQ one two)), .un, .un]) (ev_asg (ev_call2 (ev_vv rfl) (ev_vv rfl) e2))]
    have it : evI (Gk (pl "ratio_at" + 1)) (.items (.call "ratios_of" (.cons (.v 0) (.cons (.v 1) .nil)))) [.fz (spD one), .fz (spD two), .fz (fr (RtQ one two)), .un, .un] = some ((rtS one two).map fun q => .tuple [.int q.1, fr q.2]) := by
      simp only [evI]
      rw [ev_call2 (ev_vv rfl) (ev_vv rfl) e3, Option.bind_some, items_sD]
    have e4 : ev (Gk (pl "ratio_at" + 1)) (.lc [3, 4] (.v 3) (.cons (.v 3) (.cons (.v 4) .nil)) (.items (.call "ratios_of" (.cons (.v 0) (.cons (.v 1) .nil)))) (.some (.cmp .eq (.v 4) (.v 2)))) [.fz (spD one), .fz (spD two), .fz (fr (RtQ one two)), .un, .un] = some (.list (js.map PyData.int)) := by
      rw [hjs]
      refine ev_lc it (compL_map (fun q => ?_) (rtS one two))
      have c := eq_fr (T := (Gk (pl "ratio_at" + 1)).tups) q.2 (RtQ one two)
      unfold stepL
      by_cases hq : q.2 = RtQ one two
      · rw [decide_eq_true hq, hq] at c
        simp [-List.map_map, xcall, xv, xnon, xbl, xint, xstr, xg, xop, xcmp, xchain, xisN, xnotN, xand, xor, xnot, xite, xbi, xisi, xtup, xlst, xix, xsl, xrev, xget, xlvals, xoget, xolen, evs, evO, evC, evS, evSs, evR, bindP, unpD, freeze, wipeE, En.get, En.own, asB, asI, isNo, hq, c]
      · rw [decide_eq_false hq] at c
        simp [-List.map_map, xcall, xv, xnon, xbl, xint, xstr, xg, xop, xcmp, xchain, xisN, xnotN, xand, xor, xnot, xite, xbi, xisi, xtup, xlst, xix, xsl, xrev, xget, xlvals, xoget, xolen, evs, evO, evC, evS, evSs, evR, bindP, unpD, freeze, wipeE, En.get, En.own, asB, asI, isNo, c, hq]
    refine evSs_rt ?_
    simp only [evS]
    rw [ev_ixx (z := .int j) e4 ev_ii (by rw [ej]; exact atI_nat (i := 0) _ rfl)]
    rfl
end PL


set_option Elab.async false
set_option linter.all false
set_option maxRecDepth 100000
set_option exponentiation.threshold 20000
/-! R2: fractions in order, each once. -/
namespace PL
open PySem
theorem whL_no {c : En → Option Bool} {b : En → Option Out} {n : Nat} {ρ : En} (h : c ρ = some false) : whL c b (n + 1) ρ = some (.nx ρ) := by
  rw [whL_succ, h]
  rfl
theorem whL_yes {c : En → Option Bool} {b : En → Option Out} {n : Nat} {ρ ρ' : En} (h : c ρ = some true) (hb : b ρ = some (.nx ρ')) : whL c b (n + 1) ρ = whL c b n ρ' := by
  rw [whL_succ, h, Option.bind_some, if_pos rfl, hb]
  rfl
theorem ev_whl {G : Gb} {c : Ex} {b : Ss} {ρ : En} : evS G (.whl c b) ρ = whL (fun ρ1 => asB (ev G c ρ1)) (fun ρ1 => evSs G b ρ1) wFuel ρ := by simp only [evS]
theorem ife_yes {G : Gb} {c : Ex} {a b : Ss} {ρ : En} (h : ev G c ρ = some (.bool true)) : evS G (.ife c a b) ρ = evSs G a ρ := by
  simp only [evS, h, asB, Option.bind_some, if_true]
theorem ev_ins {G : Gb} {i : Nat} {k e : Ex} {ρ : En} {x y d z : D} (o : ρ.own i = some x) (hk : ev G k ρ = some y) (he : ev G e ρ = some d) (hi : insD x y d = some z) : evS G (.ins i k e) ρ = some (.nx (ρ.set i (.ow z))) := by
  simp only [evS, o, hk, he, hi, Option.bind_some, Option.map_some]
def ssE (x0 : Sl) (l : List Rat) (s : Rat) (lo hi : Nat) (x5 : Sl) : En := [x0, .ow (.list (l.map fr)), .fz (fr s), .fz (.int (lo : Int)), .fz (.int (hi : Int)), x5]
def ssW : Ss := .cons (.asg (.v 5) (.op .fdiv (.op .add (.v 3) (.v 4)) (.int 2))) (.cons (.ife (.call "is_less" (.cons (.oix 1 (.v 5)) (.cons (.v 2) .nil))) (.cons (.asg (.v 3) (.op .add (.v 5) (.int 1))) .nil) (.cons (.asg (.v 4) (.v 5)) .nil)) .nil)
theorem oix_ev {G : Gb} {ρ : En} {i : Nat} {k : Ex} {ds : List D} {j : Nat} {d : D} (h : ρ.own i = some (.list ds)) (hk : ev G k ρ = some (.int (j : Int))) (hj : ds[j]? = some d) : ev G (.oix i k) ρ = some d := by
  simp only [ev, h, hk, Option.bind_some, oixD]
  exact atI_nat _ hj
theorem ss_wh {G : Gb} (hL : ∀ r s : Rat, Sm r → Sm s → ap G "is_less" [fr r, fr s] = some (.bool (decide (r < s)))) (x0 : Sl) {l : List Rat} (sl : ∀ r ∈ l, Sm r) {s : Rat} (ss : Sm s) (hl : l.length ≤ 1000) (inc : l.Pairwise (· < ·)) : ∀ (m n lo hi : Nat) (x5 : Sl), hi - lo ≤ m → m < n → lo ≤ hi → hi ≤ l.length → (∀ i, i < lo → ∀ r, l[i]? = some r → r < s) → (∀ i, hi ≤ i → ∀ r, l[i]? = some r → s ≤ r) →
    ∃ k t5, k ≤ l.length ∧ whL (fun ρ1 => asB (ev G (.cmp .lt (.v 3) (.v 4)) ρ1)) (fun ρ1 => evSs G ssW ρ1) n (ssE x0 l s lo hi x5) = some (.nx (ssE x0 l s k k t5)) ∧ (∀ i, i < k → ∀ r, l[i]? = some r → r < s) ∧ ∀ i, k ≤ i → ∀ r, l[i]? = some r → s ≤ r := by
  intro m
  induction m with
  | zero =>
    intro n lo hi x5 h1 h2 h3 h4 h5 h6
    have e : lo = hi := by omega
    subst e
    obtain ⟨n, rfl⟩ : ∃ k, n = k + 1 := ⟨n - 1, by omega⟩
    refine ⟨lo, x5, h4, whL_no ?_, h5, h6⟩
    unfold ssE
    simp [-List.map_map, xcall, xv, xnon, xbl, xint, xstr, xg, xop, xcmp, xchain, xisN, xnotN, xand, xor, xnot, xite, xbi, xisi, xtup, xlst, xix, xsl, xrev, xget, xlvals, xoget, xolen, evs, evO, evC, evS, evSs, evR, bindP, unpD, freeze, wipeE, En.get, En.own, asB, asI, isNo, cmpD, ltD]
  | succ m ih =>
    intro n lo hi x5 h1 h2 h3 h4 h5 h6
    obtain ⟨n, rfl⟩ : ∃ k, n = k + 1 := ⟨n - 1, by omega⟩
    by_cases e : lo = hi
    · subst e
      refine ⟨lo, x5, h4, whL_no ?_, h5, h6⟩
      unfold ssE
      simp [-List.map_map, xcall, xv, xnon, xbl, xint, xstr, xg, xop, xcmp, xchain, xisN, xnotN, xand, xor, xnot, xite, xbi, xisi, xtup, xlst, xix, xsl, xrev, xget, xlvals, xoget, xolen, evs, evO, evC, evS, evSs, evR, bindP, unpD, freeze, wipeE, En.get, En.own, asB, asI, isNo, cmpD, ltD]
    · have lt : lo < hi := by omega
      obtain ⟨mid, hm⟩ : ∃ mid : Nat, mid = (lo + hi) / 2 := ⟨_, rfl⟩
      have m1 : lo ≤ mid := by omega
      have m2 : mid < hi := by omega
      have hml : mid < l.length := by omega
      have em : ((lo : Int) + (hi : Int)) / 2 = (mid : Int) := by omega
      have hgm : l[mid]? = some l[mid] := List.getElem?_eq_getElem hml
      have smm : Sm l[mid] := sl _ (List.getElem_mem hml)
      have c := hL l[mid] s smm ss
      have cc : (fun ρ1 => asB (ev G (.cmp .lt (.v 3) (.v 4)) ρ1)) (ssE x0 l s lo hi x5) = some true := by
        unfold ssE
        simp [-List.map_map, xcall, xv, xnon, xbl, xint, xstr, xg, xop, xcmp, xchain, xisN, xnotN, xand, xor, xnot, xite, xbi, xisi, xtup, xlst, xix, xsl, xrev, xget, xlvals, xoget, xolen, evs, evO, evC, evS, evSs, evR, bindP, unpD, freeze, wipeE, En.get, En.own, asB, asI, isNo, cmpD, ltD]
        omega
      have fd : opD .fdiv (.int ((lo : Int) + (hi : Int))) (.int 2) = some (.int (mid : Int)) := by
        rw [← em]
        exact fdiv_i (by decide) (by decide)
      have st1 : evS G (.asg (.v 5) (.op .fdiv (.op .add (.v 3) (.v 4)) (.int 2))) (ssE x0 l s lo hi x5) = some (.nx (ssE x0 l s lo hi (.fz (.int (mid : Int))))) := by
        unfold ssE
        exact ev_asg (ev_opp (ev_opp (ev_vv rfl) (ev_vv rfl) (add_i _ _)) ev_ii fd)
      have eo : ev G (.oix 1 (.v 5)) (ssE x0 l s lo hi (.fz (.int (mid : Int)))) = some (fr l[mid]) := oix_ev (ds := l.map fr) (j := mid) rfl (ev_vv rfl) (by rw [List.getElem?_map, hgm]; rfl)
      have ec := ev_call2 (G := G) (f := "is_less") eo (ev_vv (i := 2) (ρ := ssE x0 l s lo hi (.fz (.int (mid : Int)))) rfl) c
      by_cases hlt : l[mid] < s
      · rw [decide_eq_true hlt] at ec
        have bb : evSs G ssW (ssE x0 l s lo hi x5) = some (.nx (ssE x0 l s (mid + 1) hi (.fz (.int (mid : Int))))) := by
          unfold ssW
          rw [evSs_nx st1]
          have : evS G (.ife (.call "is_less" (.cons (.oix 1 (.v 5)) (.cons (.v 2) .nil))) (.cons (.asg (.v 3) (.op .add (.v 5) (.int 1))) .nil) (.cons (.asg (.v 4) (.v 5)) .nil)) (ssE x0 l s lo hi (.fz (.int (mid : Int)))) = some (.nx (ssE x0 l s (mid + 1) hi (.fz (.int (mid : Int))))) := by
            simp only [evS, ec, asB, Option.bind_some, if_true]
            rw [evSs_nx (ev_asg (ev_opp (ev_vv rfl) ev_ii (add_i _ _)))]
            rfl
          rw [evSs_nx this]
          rfl
        rw [whL_yes cc bb]
        refine ih n (mid + 1) hi _ (by omega) (by omega) (by omega) h4 (fun i hi' r hr => ?_) h6
        by_cases z : i = mid
        · subst z
          rw [hgm] at hr
          cases hr
          exact hlt
        · have hil : i < l.length := (List.getElem?_eq_some_iff.mp hr).1
          have hr2 := (List.getElem?_eq_some_iff.mp hr).2
          have := List.pairwise_iff_getElem.mp inc i mid hil hml (by omega)
          rw [hr2] at this
          grind
      · rw [decide_eq_false hlt] at ec
        have bb : evSs G ssW (ssE x0 l s lo hi x5) = some (.nx (ssE x0 l s lo mid (.fz (.int (mid : Int))))) := by
          unfold ssW
          rw [evSs_nx st1]
          have : evS G (.ife (.call "is_less" (.cons (.oix 1 (.v 5)) (.cons (.v 2) .nil))) (.cons (.asg (.v 3) (.op .add (.v 5) (.int 1))) .nil) (.cons (.asg (.v 4) (.v 5)) .nil)) (ssE x0 l s lo hi (.fz (.int (mid : Int)))) = some (.nx (ssE x0 l s lo mid (.fz (.int (mid : Int))))) := by
            simp only [evS, ec, asB, Option.bind_some, Bool.false_eq_true, if_false]
            rw [evSs_nx (ev_asg (ev_vv rfl))]
            rfl
          rw [evSs_nx this]
          rfl
        rw [whL_yes cc bb]
        refine ih n lo mid _ (by omega) (by omega) (by omega) (by omega) h5 fun i hi' r hr => ?_
        have hil : i < l.length := (List.getElem?_eq_some_iff.mp hr).1
        have hr2 := (List.getElem?_eq_some_iff.mp hr).2
        by_cases z : i = mid
        · subst z
          rw [← hr2]
          grind
        · have := List.pairwise_iff_getElem.mp inc mid i hml hil (by omega)
          rw [hr2] at this
          grind
/-- ascending, each once -/
structure Asc (l : List Rat) (ms : List Rat) : Prop where
  inc : l.Pairwise (· < ·)
  mem : ∀ r, r ∈ l ↔ r ∈ ms
  len : l.length ≤ ms.length
theorem asc_ins {l ms : List Rat} {s : Rat} (a : Asc l ms) {k : Nat} (hk : k ≤ l.length) (h1 : ∀ i, i < k → ∀ r, l[i]? = some r → r < s) (h2 : ∀ i, k ≤ i → ∀ r, l[i]? = some r → s < r) : Asc (l.take k ++ [s] ++ l.drop k) (ms ++ [s]) := by
  have tk : ∀ r ∈ l.take k, r < s := fun r hr => by
    obtain ⟨i, hi⟩ := List.mem_iff_getElem?.mp hr
    have hik : i < k := by
      have := (List.getElem?_eq_some_iff.mp hi).1
      rw [List.length_take] at this
      omega
    rw [List.getElem?_take_of_lt hik] at hi
    exact h1 i hik r hi
  have dk : ∀ r ∈ l.drop k, s < r := fun r hr => by
    obtain ⟨i, hi⟩ := List.mem_iff_getElem?.mp hr
    rw [List.getElem?_drop] at hi
    exact h2 (k + i) (by omega) r hi
  have inc' : (l.take k ++ l.drop k).Pairwise (· < ·) := by rw [List.take_append_drop]; exact a.inc
  obtain ⟨i1, i2, i3⟩ := List.pairwise_append.mp inc'
  refine ⟨?_, fun r => ?_, ?_⟩
  · rw [List.append_assoc]
    refine List.pairwise_append.mpr ⟨i1, ?_, fun x hx y hy => ?_⟩
    · exact List.pairwise_cons.mpr ⟨fun y hy => dk y hy, i2⟩
    · rcases List.mem_cons.mp hy with e | hy
      · rw [e]; exact tk x hx
      · exact i3 x hx y hy
  · have e : r ∈ l ↔ r ∈ l.take k ∨ r ∈ l.drop k := by
      conv => lhs; rw [← List.take_append_drop k l]
      exact List.mem_append
    simp only [List.mem_append, List.mem_singleton]
    rw [← a.mem r, e]
    constructor
    · rintro ((h | h) | h)
      · exact .inl (.inl h)
      · exact .inr h
      · exact .inl (.inr h)
    · rintro ((h | h) | h)
      · exact .inl (.inl h)
      · exact .inr h
      · exact .inl (.inr h)
  · have := a.len
    simp only [List.length_append, List.length_take, List.length_drop, List.length_singleton]
    omega
def ssB : Ss := .cons (.par 3 4 (.ex (.int 0)) (.ex (.olen 1))) (.cons (.whl (.cmp .lt (.v 3) (.v 4)) ssW) (.cons (.ife (.or_ (.cmp .eq (.v 3) (.olen 1)) (.cmp .ne (.oix 1 (.v 3)) (.v 2))) (.cons (.ins 1 (.v 3) (.v 2)) .nil) .nil) .nil))
theorem ss_turn {G : Gb} (hL : ∀ r s : Rat, Sm r → Sm s → ap G "is_less" [fr r, fr s] = some (.bool (decide (r < s)))) (x0 : Sl) {l ms : List Rat} (a : Asc l ms) (sl : ∀ r ∈ ms, Sm r) {s : Rat} (ss : Sm s) (hl : ms.length ≤ 900) (x3 x4 x5 : Sl) :
    ∃ l' t3 t4 t5, Asc l' (ms ++ [s]) ∧ evSs G ssB [x0, .ow (.list (l.map fr)), .fz (fr s), x3, x4, x5] = some (.nx [x0, .ow (.list (l'.map fr)), .fz (fr s), t3, t4, t5]) := by
  have hl1 := a.len
  have sl' : ∀ r ∈ l, Sm r := fun r hr => sl r ((a.mem r).mp hr)
  have eol : ∀ y3 y4 y5, ev G (.olen 1) [x0, .ow (.list (l.map fr)), .fz (fr s), y3, y4, y5] = some (.int (l.length : Int)) := fun y3 y4 y5 => by
    rw [xolen]
    simp [En.own, olenD]
  have s1 : evS G (.par 3 4 (.ex (.int 0)) (.ex (.olen 1))) [x0, .ow (.list (l.map fr)), .fz (fr s), x3, x4, x5] = some (.nx (ssE x0 l s 0 l.length x5)) := by
    simp only [evS, evR, xint, eol, Option.map_some, Option.bind_some]
    rfl
  obtain ⟨n, hn, hw⟩ : ∃ n, n = wFuel ∧ 1000 < n := ⟨wFuel, rfl, by decide⟩
  obtain ⟨k, t5, hk, w1, w2, w3⟩ := ss_wh hL x0 sl' ss (by omega) a.inc l.length n 0 l.length x5 (by omega) (by omega) (by omega) (Nat.le_refl _) (fun i hi => by omega) (fun i hi r hr => by
    have := (List.getElem?_eq_some_iff.mp hr).1
    omega)
  have s2 : evS G (.whl (.cmp .lt (.v 3) (.v 4)) ssW) (ssE x0 l s 0 l.length x5) = some (.nx (ssE x0 l s k k t5)) := by
    rw [ev_whl, ← hn]
    exact w1
  have e1 : ev G (.cmp .eq (.v 3) (.olen 1)) (ssE x0 l s k k t5) = some (.bool (decide ((k : Int) = (l.length : Int)))) := by
    refine ev_cmp (ev_vv rfl) (eol _ _ _) ?_
    have := eq_int (T := G.tups) (k : Int) (l.length : Int)
    exact this
  unfold ssB
  rw [evSs_nx s1, evSs_nx s2]
  have ins : ∀ (hh : ∀ i, k ≤ i → ∀ r, l[i]? = some r → s < r), ev G (.or_ (.cmp .eq (.v 3) (.olen 1)) (.cmp .ne (.oix 1 (.v 3)) (.v 2))) (ssE x0 l s k k t5) = some (.bool true) → ∃ l' t3 t4 t5', Asc l' (ms ++ [s]) ∧ evSs G (.cons (.ife (.or_ (.cmp .eq (.v 3) (.olen 1)) (.cmp .ne (.oix 1 (.v 3)) (.v 2))) (.cons (.ins 1 (.v 3) (.v 2)) .nil) .nil) .nil) (ssE x0 l s k k t5) = some (.nx [x0, .ow (.list (l'.map fr)), .fz (fr s), t3, t4, t5']) := by
    intro hh hc
    have ap1 := asc_ins a hk w2 hh
    refine ⟨_, .fz (.int (k : Int)), .fz (.int (k : Int)), t5, ap1, ?_⟩
    have hid : insD (.list (l.map fr)) (.int (k : Int)) (fr s) = some (.list ((l.take k ++ [s] ++ l.drop k).map fr)) := by
      simp only [insD]
      rw [if_pos ⟨by omega, by omega, by unfold szOk sizeLine; exact decide_eq_true (by simp; omega)⟩]
      simp [List.map_take, List.map_drop]
    have si : evS G (.ins 1 (.v 3) (.v 2)) (ssE x0 l s k k t5) = some (.nx [x0, .ow (.list ((l.take k ++ [s] ++ l.drop k).map fr)), .fz (fr s), .fz (.int (k : Int)), .fz (.int (k : Int)), t5]) := by
      exact ev_ins (ρ := ssE x0 l s k k t5) rfl (ev_vv rfl) (ev_vv rfl) hid
    have e : evS G (.ife (.or_ (.cmp .eq (.v 3) (.olen 1)) (.cmp .ne (.oix 1 (.v 3)) (.v 2))) (.cons (.ins 1 (.v 3) (.v 2)) .nil) .nil) (ssE x0 l s k k t5) = some (.nx [x0, .ow (.list ((l.take k ++ [s] ++ l.drop k).map fr)), .fz (fr s), .fz (.int (k : Int)), .fz (.int (k : Int)), t5]) := by
      rw [ife_yes hc]
      rw [evSs_nx si]
      rfl
    rw [evSs_nx e]
    rfl
  by_cases hkl : k = l.length
  · refine ins (fun i hi r hr => ?_) ?_
    · have := (List.getElem?_eq_some_iff.mp hr).1
      omega
    · rw [xor, e1, decide_eq_true (by rw [hkl])]
      rfl
  · have hkl2 : k < l.length := by omega
    have hgk : l[k]? = some l[k] := List.getElem?_eq_getElem hkl2
    have eo : ev G (.oix 1 (.v 3)) (ssE x0 l s k k t5) = some (fr l[k]) := oix_ev (ds := l.map fr) (j := k) rfl (ev_vv rfl) (by rw [List.getElem?_map, hgk]; rfl)
    have cn : cmpD G.tups .ne (fr l[k]) (fr s) = some (!decide (l[k] = s)) := by
      simp only [cmpD, fr_shaped, Bool.and_self, if_true, eqv_fr]
    have e2 := ev_cmp (c := .ne) eo (ev_vv (i := 2) (ρ := ssE x0 l s k k t5) rfl) cn
    have le := w3 k (Nat.le_refl _) _ hgk
    by_cases hs : l[k] = s
    · rw [decide_eq_true hs] at e2
      refine ⟨l, .fz (.int (k : Int)), .fz (.int (k : Int)), t5, ⟨a.inc, fun r => ?_, by have := a.len; simp; omega⟩, ?_⟩
      · rw [a.mem, List.mem_append, List.mem_singleton]
        refine ⟨.inl, fun h => h.elim id fun e => ?_⟩
        subst e
        exact (a.mem r).mp (hs ▸ List.getElem_mem hkl2)
      · rw [evSs_nx (ife_nil (ev_or_ff (by rw [e1, decide_eq_false (by omega)]) e2))]
        rfl
    · rw [decide_eq_false hs] at e2
      refine ins (fun i hi r hr => ?_) ?_
      · have hil : i < l.length := (List.getElem?_eq_some_iff.mp hr).1
        have hr2 := (List.getElem?_eq_some_iff.mp hr).2
        by_cases z : i = k
        · subst z
          rw [hgk] at hr
          cases hr
          grind
        · have := List.pairwise_iff_getElem.mp a.inc k i hkl2 hil (by omega)
          rw [hr2] at this
          grind
      · rw [xor, e1, decide_eq_false (by omega), e2]
        rfl
theorem ss_loop {G : Gb} (hL : ∀ r s : Rat, Sm r → Sm s → ap G "is_less" [fr r, fr s] = some (.bool (decide (r < s)))) (x0 : Sl) : ∀ (bs ms l : List Rat) (x2 x3 x4 x5 : Sl), Asc l ms → (∀ r ∈ ms ++ bs, Sm r) → (ms ++ bs).length ≤ 900 →
    ∃ l' t2 t3 t4 t5, Asc l' (ms ++ bs) ∧ forL (fun d ρ1 => (bindP (.v 2) d ρ1).bind fun ρ2 => evSs G ssB ρ2) (bs.map fr) [x0, .ow (.list (l.map fr)), x2, x3, x4, x5] = some (.nx [x0, .ow (.list (l'.map fr)), t2, t3, t4, t5])
  | [], ms, l, x2, x3, x4, x5, a, _, _ => ⟨l, x2, x3, x4, x5, by simpa using a, rfl⟩
  | b :: bs, ms, l, x2, x3, x4, x5, a, sm, hl => by
    obtain ⟨l1, t3, t4, t5, a1, h1⟩ := ss_turn hL x0 a (fun r hr => sm r (List.mem_append_left _ hr)) (s := b) (sm b (by simp)) (by simp at hl; omega) x3 x4 x5
    have e : ms ++ b :: bs = (ms ++ [b]) ++ bs := by simp
    rw [e] at sm hl ⊢
    obtain ⟨l', u2, u3, u4, u5, a2, h2⟩ := ss_loop hL x0 bs (ms ++ [b]) l1 (.fz (fr b)) t3 t4 t5 a1 sm hl
    refine ⟨l', u2, u3, u4, u5, a2, ?_⟩
    rw [List.map_cons, forL_cons]
    have st : (bindP (.v 2) (fr b) [x0, .ow (.list (l.map fr)), x2, x3, x4, x5]).bind (fun ρ2 => evSs G ssB ρ2) = evSs G ssB [x0, .ow (.list (l.map fr)), .fz (fr b), x3, x4, x5] := rfl
    rw [st, h1, Option.bind_some]
    exact h2
theorem a_sorted {ms : List Rat} (sm : ∀ r ∈ ms, Sm r) (hl : ms.length ≤ 900) : ∃ l, Asc l ms ∧ ∀ k, k ≤ pl "sorted_shares" → ap (Gk k) "sorted_shares" [.list (ms.map fr)] = some (.list (l.map fr)) := by
  obtain ⟨l, t2, t3, t4, t5, a, h⟩ := ss_loop (G := Gk (pl "sorted_shares" + 1)) (fun r s hr hs => a_less hr hs _ (show pl "sorted_shares" + 1 ≤ pl "is_less" by decide +kernel)) (.fz (.list (ms.map fr))) ms [] [] .un .un .un .un ⟨List.Pairwise.nil, fun r => Iff.rfl, Nat.le_refl _⟩ (by simpa using sm) (by simpa using hl)
  refine ⟨l, by simpa using a, at_ rfl rfl ?_⟩
  refine run_of (ρ := [.fz (.list (ms.map fr)), .un, .un, .un, .un, .un]) rfl rfl ?_
  have eb : K03.b_sorted_shares = .cons (.new 1 (.nl .nil)) (.cons (.for_ (.v 2) (.seq (.v 0)) ssB) (.cons (.fz 1 (.ret (.v 1))) .nil)) := rfl
  show evSs _ K03.b_sorted_shares _ = _
  rw [eb]
  rw [evSs_nx (ρ' := [.fz (.list (ms.map fr)), .ow (.list []), .un, .un, .un, .un]) rfl]
  have it : evI (Gk (pl "sorted_shares" + 1)) (.seq (.v 0)) [.fz (.list (ms.map fr)), .ow (.list []), .un, .un, .un, .un] = some (ms.map fr) := rfl
  rw [evSs_nx (evS_for it h)]
  refine evSs_rt ?_
  rfl
end PL


set_option Elab.async false
set_option linter.all false
set_option maxRecDepth 100000
set_option exponentiation.threshold 20000
/-! R3: the corners of what is left over. -/
namespace PL
open PySem
/-- a fraction as a key -/
def frK (r : Rat) : NestedKey := .tup [.num r.num, .num (r.den : Int)]
theorem kdOf_fr {T : List D} (r : Rat) : kdOf T (fr r) = some (frK r) := rfl
theorem frK_inj {r s : Rat} : frK r = frK s ↔ r = s := by
  constructor
  · intro h
    unfold frK at h
    simp only [NestedKey.tup.injEq, List.cons.injEq, NestedKey.num.injEq, and_true] at h
    exact Rat.ext h.1 (by exact_mod_cast h.2)
  · intro h; rw [h]
def pDD (p : Rat × Rat) : D := .tuple [fr p.1, fr p.2]
/-- rows of pairs, by fractions -/
abbrev Ws := List (Rat × List (Rat × Rat))
def wsT (es : Ws) : Od := .dct (es.map fun e => fr e.1) (es.map fun e => .lst (e.2.map fun p => .fz (pDD p)))
def wsD (es : Ws) : D := .dict (es.map fun e => (fr e.1, .list (e.2.map pDD)))
theorem toDs_fz : ∀ l : List (Rat × Rat), Od.toDs (l.map fun p => .fz (pDD p)) = l.map pDD
  | [] => by simp only [List.map_nil, Od.toDs]
  | p :: r => by simp only [List.map_cons, Od.toDs, Od.toD, toDs_fz r]
theorem toDs_ws : ∀ es : Ws, Od.toDs (es.map fun e => .lst (e.2.map fun p => .fz (pDD p))) = es.map fun e => .list (e.2.map pDD)
  | [] => by simp only [List.map_nil, Od.toDs]
  | e :: r => by simp only [List.map_cons, Od.toDs, Od.toD, toDs_ws r, toDs_fz]
theorem toD_ws (es : Ws) : (wsT es).toD = wsD es := by
  unfold wsT wsD
  simp only [Od.toD, toDs_ws]
  congr 1
  induction es with
  | nil => rfl
  | cons e r ih => simp only [List.map_cons, List.zip_cons_cons, ih]
/-- what holds of the rows -/
structure WsOk (M1 M2 n : Nat) (es : Ws) : Prop where
  len : es.length ≤ n
  row : ∀ e ∈ es, e.2.length ≤ n ∧ ∀ p ∈ e.2, Bd M1 1 p.1 ∧ Bd M2 1 p.2
theorem ws_find {T : List D} (es : Ws) (r : Rat) : ((es.map fun e => fr e.1).findIdx? fun k => decide (kdOf T k = some (frK r))) = es.findIdx? fun e => decide (e.1 = r) := by
  rw [List.findIdx?_map]
  congr 1
  funext e
  simp only [Function.comp, kdOf_fr, Option.some.injEq, frK_inj]
/-- a pair put at a fraction -/
theorem ws_step {T : List D} {M1 M2 n : Nat} {es : Ws} (h : WsOk M1 M2 n es) (hn : n ≤ 1000) (r : Rat) {p : Rat × Rat} (hp : Bd M1 1 p.1 ∧ Bd M2 1 p.2) :
    ∃ (es' : Ws) (j : Nat) (t' w w' : Od), WsOk M1 M2 (n + 1) es' ∧ sdD T (wsT es) (fr r) (.lst []) = some (j, t') ∧ t'.kids[j]? = some w ∧ pappD w (.fz (pDD p)) = some w' ∧ t'.setKid j w' = wsT es' := by
  have sz : ∀ m : Nat, m ≤ 1000 → szOk (m + 1) = true := fun m hm => by
    unfold szOk sizeLine
    exact decide_eq_true (by omega)
  have hl := h.len
  have sd : sdD T (wsT es) (fr r) (.lst []) = match es.findIdx? fun e => decide (e.1 = r) with
      | some j => some (j, wsT es)
      | none => some (es.length, .dct ((es.map fun e => fr e.1) ++ [fr r]) ((es.map fun e => .lst (e.2.map fun p => .fz (pDD p))) ++ [.lst []])) := by
    unfold wsT
    simp only [sdD, kdOf_fr, Option.bind_some, List.length_map]
    rw [if_pos (sz _ (by omega)), ws_find]
    try (cases List.findIdx? (fun e => decide (e.1 = r)) es <;> rfl)
  cases hf : es.findIdx? fun e => decide (e.1 = r) with
  | some j =>
    obtain ⟨hj, _, _⟩ := List.findIdx?_eq_some_iff_getElem.mp hf
    obtain ⟨l1, l2⟩ := h.row es[j] (List.getElem_mem hj)
    refine ⟨es.set j (es[j].1, es[j].2 ++ [p]), j, wsT es, _, _, ⟨by rw [List.length_set]; omega, fun e he => ?_⟩, by rw [sd, hf], by
      show (es.map fun e => Od.lst (e.2.map fun p => .fz (pDD p)))[j]? = _
      rw [List.getElem?_map, List.getElem?_eq_getElem hj]
      rfl, by
      simp only [pappD, List.length_map]
      rw [if_pos (sz _ (by omega))], ?_⟩
    · rcases List.mem_or_eq_of_mem_set he with he | he
      · exact ⟨by have := (h.row e he).1; omega, (h.row e he).2⟩
      · subst he
        refine ⟨by simp; omega, fun q hq => ?_⟩
        rcases List.mem_append.mp hq with hq | hq
        · exact l2 q hq
        · rw [List.mem_singleton.mp hq]; exact hp
    · unfold wsT
      simp only [Od.setKid]
      congr 1
      · rw [List.map_set]
        refine (List.set_getElem_self (as := es.map fun e => fr e.1) (i := j) (by simpa using hj)).symm.trans ?_
        rw [List.getElem_map]
      · rw [List.map_set]
        simp
  | none =>
    refine ⟨es ++ [(r, [p])], es.length, _, .lst [], _, ⟨by simp; omega, fun e he => ?_⟩, by rw [sd, hf], by
      simp [Od.kids], by
      simp only [pappD, List.length_nil]
      rw [if_pos (sz 0 (by omega))], ?_⟩
    · rcases List.mem_append.mp he with he | he
      · exact ⟨by have := (h.row e he).1; omega, (h.row e he).2⟩
      · rw [List.mem_singleton.mp he]
        refine ⟨by simp, fun q hq => ?_⟩
        rw [List.mem_singleton.mp hq]
        exact hp
    · unfold wsT
      simp only [Od.setKid, List.map_append, List.map_cons, List.map_nil]
      congr 1
      rw [List.set_append_right _ _ (by simp)]
      simp
theorem ws_noO (es : Ws) : noO (es.map fun e => (fr e.1, PyData.list (e.2.map pDD))) = true := by
  cases es <;> rfl
theorem ws_look {T : List D} (q : NestedKey) : ∀ es : Ws, (∃ e ∈ es, lookD T (es.map fun e => (fr e.1, .list (e.2.map pDD))) q = some (.list (e.2.map pDD))) ∨ lookD T (es.map fun e => (fr e.1, .list (e.2.map pDD))) q = none
  | [] => .inr rfl
  | e :: r => by
    simp only [List.map_cons, lookD]
    by_cases h : kdOf T (fr e.1) = some q
    · rw [if_pos h]
      exact .inl ⟨e, List.mem_cons_self, rfl⟩
    · rw [if_neg h]
      rcases ws_look q r with ⟨e', h1, h2⟩ | h2
      · exact .inl ⟨e', List.mem_cons_of_mem _ h1, h2⟩
      · exact .inr h2
theorem ws_get {T : List D} {M1 M2 n : Nat} {es : Ws} (h : WsOk M1 M2 n es) {k : D} {q : NestedKey} (hk : kdOf T k = some q) : ∃ L : List (Rat × Rat), L.length ≤ n ∧ (∀ p ∈ L, Bd M1 1 p.1 ∧ Bd M2 1 p.2) ∧ dget T (wsD es) k (.list []) = some (.list (L.map pDD)) := by
  have g : dget T (wsD es) k (.list []) = some ((lookD T (es.map fun e => (fr e.1, .list (e.2.map pDD))) q).getD (.list [])) := by
    unfold wsD
    simp only [dget, getK, ws_noO, if_true, hk, Option.map_some]
  rcases ws_look (T := T) q es with ⟨e, h1, h2⟩ | h2
  · exact ⟨e.2, (h.row e h1).1, (h.row e h1).2, by rw [g, h2]; rfl⟩
  · exact ⟨[], Nat.zero_le _, by simp, by rw [g, h2]; rfl⟩
theorem ws_none {T : List D} (es : Ws) : dget T (wsD es) .none (.list []) = some (.list []) := by
  have hk : kdOf T .none = some .none := rfl
  have l : ∀ es : Ws, lookD T (es.map fun e => (fr e.1, .list (e.2.map pDD))) .none = none := by
    intro es
    induction es with
    | nil => rfl
    | cons e r ih =>
      simp only [List.map_cons, lookD]
      rw [if_neg (show ¬ kdOf T (fr e.1) = some .none from fun z => by
        rw [kdOf_fr] at z
        simp [frK] at z), ih]
  unfold wsD
  simp only [dget, getK, ws_noO, if_true, hk, Option.map_some, l]
  rfl
/-! ### the def -/
theorem ev_sdapp {G : Gb} {i : Nat} {k e : Ex} {ρ : En} {es es' : Ws} {r : Rat} {p : Rat × Rat} {j : Nat} {t' w w' : Od} (ht : ρ[i]? = some (.tr (wsT es))) (hk : ev G k ρ = some (fr r)) (he : ∀ u, ev G e (ρ.set i (.tr u)) = some (pDD p))
    (h1 : sdD G.tups (wsT es) (fr r) (.lst []) = some (j, t')) (h2 : t'.kids[j]? = some w) (h3 : pappD w (.fz (pDD p)) = some w') (h4 : t'.setKid j w' = wsT es') : evS G (.sdapp (.v i) k e) ρ = some (.nx (ρ.set i (.tr (wsT es')))) := by
  have tr : ρ.tree i = some (wsT es) := by unfold En.tree; rw [ht]
  have e1 : evP G (.v i) ρ = some (i, []) := by simp only [evP, tr, Option.map_some]
  have e2 : ρ.sub (i, []) = some (wsT es) := by unfold En.sub; rw [tr]; simp only [Option.bind_some, Od.at_]
  have e3 : ∀ u, ρ.putT (i, []) u = ρ.set i (.tr u) := fun u => by unfold En.putT; rw [tr]; simp only [Od.put_]
  simp only [evS, e1, e2, hk, h1, e3, he, h2, h3, h4, Option.bind_some, Option.map_some]
end PL


set_option Elab.async false
set_option linter.all false
set_option maxRecDepth 100000
set_option exponentiation.threshold 20000
/-! R4: curve; its last corner. -/
namespace PL
open PySem
theorem Bd.add1 {M B : Nat} {r s : Rat} (h : Bd M B r) (k : Bd M 1 s) : Bd M (B + 1) (r + s) := by
  refine ⟨?_, ?_, dvd_add h.dv k.dv⟩
  · have := h.nn; have := k.nn; grind
  · have h1 := h.le
    have h2 := k.le
    push_cast at h2 ⊢
    grind
theorem par_of {G : Gb} {i j : Nat} {a b : Ex} {ρ : En} {x y : D} (h1 : ev G a ρ = some x) (h2 : ev G b ρ = some y) : evS G (.par i j (.ex a) (.ex b)) ρ = some (.nx ((ρ.set i (.fz x)).set j (.fz y))) := by
  simp only [evS, evR, h1, h2, Option.map_some, Option.bind_some]
theorem app_of {G : Gb} {i : Nat} {e : Ex} {ρ : En} {ds : List D} {d : D} (o : ρ.own i = some (.list ds)) (he : ev G e ρ = some d) (hl : ds.length ≤ 1000) : evS G (.app i e) ρ = some (.nx (ρ.set i (.ow (.list (ds ++ [d]))))) := by
  have ha : appD (.list ds) d = some (.list (ds ++ [d])) := by
    simp only [appD]
    rw [if_pos (by unfold szOk sizeLine; exact decide_eq_true (by omega))]
  simp only [evS, o, he, ha, Option.bind_some, Option.map_some]
theorem fz_of {G : Gb} {i : Nat} {s : St} {ρ : En} {d : D} (h : ρ[i]? = some (.fz d)) : evS G (.fz i s) ρ = evS G s ρ := by
  have e : freeze ρ i = ρ := by unfold freeze; rw [h]
  simp only [evS, e]
theorem fz_tr {G : Gb} {i : Nat} {s : St} {ρ : En} {t : Od} (h : ρ[i]? = some (.tr t)) : evS G (.fz i s) ρ = evS G s (ρ.set i (.fz t.toD)) := by
  have e : freeze ρ i = ρ.set i (.fz t.toD) := by unfold freeze; rw [h]
  simp only [evS, e]
theorem ev_get3 {G : Gb} {a k d : Ex} {ρ : En} {x y z r : D} (h1 : ev G a ρ = some x) (h2 : ev G k ρ = some y) (h3 : ev G d ρ = some z) (h : dget G.tups x y z = some r) : ev G (.get a k d) ρ = some r := by
  rw [xget, h1, Option.bind_some, h2, Option.bind_some, h3, Option.bind_some, h]
theorem evI_seq {G : Gb} {a : Ex} {ρ : En} {l : List D} (h : ev G a ρ = some (.list l)) : evI G (.seq a) ρ = some l := by
  simp only [evI, h, Option.bind_some, seqD]
def cvE (x0 x1 x2 x3 x4 x7 x8 x9 x11 x15 : Sl) (own taken : Rat) (x10 x12 x13 x14 : Sl) : En := [x0, x1, x2, x3, x4, .fz (fr own), .fz (fr taken), x7, x8, x9, x10, x11, x12, x13, x14, x15]
def cvI : Ss := .cons (.par 5 6 (.ex (.call "plus" (.cons (.v 5) (.cons (.v 10) .nil)))) (.ex (.call "plus" (.cons (.v 6) (.cons (.v 14) .nil))))) .nil
theorem cv_in {G : Gb} (hP : ∀ r s : Rat, Sm r → Sm s → ap G "plus" [fr r, fr s] = some (fr (r + s))) {M1 M2 : Nat} (h1 : 0 < M1) (h2 : 0 < M2) (hM1 : M1 < 2 ^ 64) (hM2 : M2 < 2 ^ 64) (x0 x1 x2 x3 x4 x7 x8 x9 x11 x15 x12 x13 : Sl) : ∀ (L : List (Rat × Rat)) (B : Nat) (own taken : Rat) (x10 x14 : Sl), Bd M1 B own → Bd M2 B taken → (∀ p ∈ L, Bd M1 1 p.1 ∧ Bd M2 1 p.2) → B + L.length < 2 ^ 20 →
    ∃ own' taken' t10 t14, Bd M1 (B + L.length) own' ∧ Bd M2 (B + L.length) taken' ∧ forL (fun d ρ1 => (bindP (.cons (.v 10) (.cons (.v 14) .nil)) d ρ1).bind fun ρ2 => evSs G cvI ρ2) (L.map pDD) (cvE x0 x1 x2 x3 x4 x7 x8 x9 x11 x15 own taken x10 x12 x13 x14) = some (.nx (cvE x0 x1 x2 x3 x4 x7 x8 x9 x11 x15 own' taken' t10 x12 x13 t14))
  | [], B, own, taken, x10, x14, b1, b2, _, _ => ⟨own, taken, x10, x14, b1, b2, rfl⟩
  | p :: L, B, own, taken, x10, x14, b1, b2, hp, hb => by
    obtain ⟨p1, p2⟩ := hp p List.mem_cons_self
    simp only [List.length_cons] at hb
    have c1 := hP own p.1 (b1.sm h1 hM1 (by omega)) (p1.sm h1 hM1 (by decide))
    have c2 := hP taken p.2 (b2.sm h2 hM2 (by omega)) (p2.sm h2 hM2 (by decide))
    obtain ⟨o', t', t10, t14, g1, g2, g3⟩ := cv_in hP h1 h2 hM1 hM2 x0 x1 x2 x3 x4 x7 x8 x9 x11 x15 x12 x13 L (B + 1) (own + p.1) (taken + p.2) (.fz (fr p.1)) (.fz (fr p.2)) (b1.add1 p1) (b2.add1 p2) (fun q hq => hp q (List.mem_cons_of_mem _ hq)) (by omega)
    have el : B + (p :: L).length = B + 1 + L.length := by simp only [List.length_cons]; omega
    rw [el]
    refine ⟨o', t', t10, t14, g1, g2, ?_⟩
    rw [List.map_cons, forL_cons]
    have st : (bindP (.cons (.v 10) (.cons (.v 14) .nil)) (pDD p) (cvE x0 x1 x2 x3 x4 x7 x8 x9 x11 x15 own taken x10 x12 x13 x14)).bind (fun ρ2 => evSs G cvI ρ2) = evSs G cvI (cvE x0 x1 x2 x3 x4 x7 x8 x9 x11 x15 own taken (.fz (fr p.1)) x12 x13 (.fz (fr p.2))) := rfl
    have st2 : evSs G cvI (cvE x0 x1 x2 x3 x4 x7 x8 x9 x11 x15 own taken (.fz (fr p.1)) x12 x13 (.fz (fr p.2))) = some (.nx (cvE x0 x1 x2 x3 x4 x7 x8 x9 x11 x15 (own + p.1) (taken + p.2) (.fz (fr p.1)) x12 x13 (.fz (fr p.2)))) := by
      unfold cvI
      rw [evSs_nx (par_of (ev_call2 (ev_vv rfl) (ev_vv rfl) c1) (ev_call2 (ev_vv rfl) (ev_vv rfl) c2))]
      rfl
    rw [st, st2, Option.bind_some]
    exact g3
def cvB : Ss := .cons (.app 12 (.tup (.cons (.v 13) (.cons (.call "minus" (.cons (.v 5) (.cons (.call "times" (.cons (.v 13) (.cons (.v 6) .nil))) .nil))) .nil)))) (.cons (.fz 7 (.for_ (.cons (.v 10) (.cons (.v 14) .nil)) (.seq (.get (.v 7) (.v 13) (.lst .nil))) cvI)) .nil)
theorem cv_out {G : Gb} (hP : ∀ r s : Rat, Sm r → Sm s → ap G "plus" [fr r, fr s] = some (fr (r + s))) (hMi : ∀ r s : Rat, Sm r → Sm s → ap G "minus" [fr r, fr s] = some (fr (r - s))) (hT : ∀ r s : Rat, Sm r → Sm s → ap G "times" [fr r, fr s] = some (fr (r * s)))
    {M1 M2 : Nat} (h1 : 0 < M1) (h2 : 0 < M2) (hM1 : M1 < 2 ^ 64) (hM2 : M2 < 2 ^ 64) {es : Ws} (hw : WsOk M1 M2 60 es) (x0 x1 x2 x3 x4 x8 x9 x11 x15 : Sl) : ∀ (cs : List Rat) (B : Nat) (own taken : Rat) (fs : List D) (x10 x13 x14 : Sl), Bd M1 B own → Bd M2 B taken → (∀ c ∈ cs, Sz 200 c) → B + 60 * cs.length < 2 ^ 19 → fs.length + cs.length ≤ 900 →
    ∃ own' taken' t10 t13 t14 gs, (∀ c cs', cs = c :: cs' → ∃ gs', gs = .tuple [fr c, fr (own - c * taken)] :: gs') ∧ forL (fun d ρ1 => (bindP (.v 13) d ρ1).bind fun ρ2 => evSs G cvB ρ2) (cs.map fr) (cvE x0 x1 x2 x3 x4 (.fz (wsD es)) x8 x9 x11 x15 own taken x10 (.ow (.list fs)) x13 x14) = some (.nx (cvE x0 x1 x2 x3 x4 (.fz (wsD es)) x8 x9 x11 x15 own' taken' t10 (.ow (.list (fs ++ gs))) t13 t14))
  | [], B, own, taken, fs, x10, x13, x14, b1, b2, _, _, _ => ⟨own, taken, x10, x13, x14, [], nofun, by simp [forL]⟩
  | c :: cs, B, own, taken, fs, x10, x13, x14, b1, b2, hc, hb, hl => by
    simp only [List.length_cons] at hb hl
    have sc := hc c List.mem_cons_self
    have sz2 : Sz 84 taken := b2.sz h2 hM2 (m := 20) (by omega)
    have smo : Sm own := b1.sm h1 hM1 (by omega)
    have e1 := hT c taken (sc.mono (by decide)) (b2.sm h2 hM2 (by omega))
    have e2 := hMi own (c * taken) smo ((Sz.mul sc sz2 (by decide)).mono (by decide))
    have s1 : evS G (.app 12 (.tup (.cons (.v 13) (.cons (.call "minus" (.cons (.v 5) (.cons (.call "times" (.cons (.v 13) (.cons (.v 6) .nil))) .nil))) .nil)))) (cvE x0 x1 x2 x3 x4 (.fz (wsD es)) x8 x9 x11 x15 own taken x10 (.ow (.list fs)) (.fz (fr c)) x14) = some (.nx (cvE x0 x1 x2 x3 x4 (.fz (wsD es)) x8 x9 x11 x15 own taken x10 (.ow (.list (fs ++ [.tuple [fr c, fr (own - c * taken)]]))) (.fz (fr c)) x14)) :=
      app_of rfl (ev_tup2 (ev_vv rfl) (ev_call2 (ev_vv rfl) (ev_call2 (ev_vv rfl) (ev_vv rfl) e1) e2)) (by omega)
    obtain ⟨L, l1, l2, l3⟩ := ws_get (T := G.tups) hw (k := fr c) (kdOf_fr c)
    have it : evI G (.seq (.get (.v 7) (.v 13) (.lst .nil))) (cvE x0 x1 x2 x3 x4 (.fz (wsD es)) x8 x9 x11 x15 own taken x10 (.ow (.list (fs ++ [.tuple [fr c, fr (own - c * taken)]]))) (.fz (fr c)) x14) = some (L.map pDD) :=
      evI_seq (ev_get3 (ev_vv rfl) (ev_vv rfl) (by rw [xlst]; rfl) l3)
    obtain ⟨o', t', t10, t14, g1, g2, g3⟩ := cv_in hP h1 h2 hM1 hM2 x0 x1 x2 x3 x4 (.fz (wsD es)) x8 x9 x11 x15 (.ow (.list (fs ++ [.tuple [fr c, fr (own - c * taken)]]))) (.fz (fr c)) L B own taken x10 x14 b1 b2 l2 (by omega)
    have s2 := evS_for it g3
    have s3 : evS G (.fz 7 (.for_ (.cons (.v 10) (.cons (.v 14) .nil)) (.seq (.get (.v 7) (.v 13) (.lst .nil))) cvI)) (cvE x0 x1 x2 x3 x4 (.fz (wsD es)) x8 x9 x11 x15 own taken x10 (.ow (.list (fs ++ [.tuple [fr c, fr (own - c * taken)]]))) (.fz (fr c)) x14) = _ := (fz_of rfl).trans s2
    have b1' : Bd M1 (B + 60) o' := g1.mono (Nat.dvd_refl _) (by omega)
    have b2' : Bd M2 (B + 60) t' := g2.mono (Nat.dvd_refl _) (by omega)
    obtain ⟨o2, t2, u10, u13, u14, gs, _, g5⟩ := cv_out hP hMi hT h1 h2 hM1 hM2 hw x0 x1 x2 x3 x4 x8 x9 x11 x15 cs (B + 60) o' t' (fs ++ [.tuple [fr c, fr (own - c * taken)]]) t10 (.fz (fr c)) t14 b1' b2' (fun x hx => hc x (List.mem_cons_of_mem _ hx)) (by omega) (by simp; omega)
    refine ⟨o2, t2, u10, u13, u14, .tuple [fr c, fr (own - c * taken)] :: gs, fun c' cs' e => ?_, ?_⟩
    · cases e
      exact ⟨gs, rfl⟩
    · rw [List.map_cons, forL_cons]
      have st : (bindP (.v 13) (fr c) (cvE x0 x1 x2 x3 x4 (.fz (wsD es)) x8 x9 x11 x15 own taken x10 (.ow (.list fs)) x13 x14)).bind (fun ρ2 => evSs G cvB ρ2) = evSs G cvB (cvE x0 x1 x2 x3 x4 (.fz (wsD es)) x8 x9 x11 x15 own taken x10 (.ow (.list fs)) (.fz (fr c)) x14) := rfl
      have st2 : evSs G cvB (cvE x0 x1 x2 x3 x4 (.fz (wsD es)) x8 x9 x11 x15 own taken x10 (.ow (.list fs)) (.fz (fr c)) x14) = some (.nx (cvE x0 x1 x2 x3 x4 (.fz (wsD es)) x8 x9 x11 x15 o' t' t10 (.ow (.list (fs ++ [.tuple [fr c, fr (own - c * taken)]]))) (.fz (fr c)) t14)) := by
        unfold cvB
        rw [evSs_nx s1, evSs_nx s3]
        rfl
      rw [st, st2, Option.bind_some]
      refine Eq.trans g5 ?_
      rw [List.append_assoc]
      rfl
end PL


set_option Elab.async false
set_option linter.all false
set_option maxRecDepth 100000
set_option exponentiation.threshold 20000
/-! R5: curve: its last corner is the greatest ratio, with nothing left. -/
namespace PL
open PySem
theorem sk_at {ps : Sh} (nd : (ps.map (·.1)).Nodup) {q : Int × Rat} (h : q ∈ ps) : (sk ps).lookup q.1 = some (fr q.2) := by
  induction ps with
  | nil => cases h
  | cons p r ih =>
    obtain ⟨a, b⟩ := p
    rw [List.map_cons, List.nodup_cons] at nd
    rcases List.mem_cons.mp h with e | h
    · subst e
      simp [sk]
    · have mk : q.1 ∈ r.map (·.1) := List.mem_map_of_mem (f := Prod.fst) h
      have ne : (q.1 == a) = false := beq_eq_false_iff_ne.mpr fun e => nd.1 (by
        have e : q.1 = a := e
        rw [← e]
        exact mk)
      have ih := ih nd.2 h
      unfold sk at ih ⊢
      rw [List.map_cons, List.lookup_cons]
      simp only [ne]
      exact ih
theorem ix_sD {T : List D} {ps : Sh} (nd : (ps.map (·.1)).Nodup) {q : Int × Rat} (h : q ∈ ps) : ixD T (sD ps) (.int q.1) = some (fr q.2) := by
  simp only [ixD, sD, getK_ints, sk_at nd h, Option.bind_some, id]
theorem ev_sl3 {G : Gb} {a : Ex} {ρ : En} {x : D} (h : ev G a ρ = some x) : ev G (.lst (.cons a .nil)) ρ = some (.list [x]) := by
  rw [xlst]
  simp only [evs, h, Option.bind_some, Option.map_some]
def caB : Ss := .cons (.sdapp (.v 7) (.ix (.v 3) (.v 8)) (.tup (.cons (.call "least_pair" (.cons (.v 9) (.cons (.ix (.v 0) (.int 0)) .nil))) (.cons (.call "least_pair" (.cons (.get (.v 2) (.v 8) (.int 0)) (.cons (.ix (.v 1) (.int 0)) .nil))) .nil)))) .nil
theorem ca_loop {G : Gb} (hG : ∀ (a : Int) (b : Nat), 0 < b → b < 2 ^ 9000 → ap G "least_pair" [.int a, .int (b : Int)] = some (fr (mkRat a b))) {one two : Wt} {M1 M2 : Nat} (h1 : 0 < M1) (h2 : 0 < M2) (hM1 : M1 < 2 ^ 64) (hM2 : M2 < 2 ^ 64) (s1 : Sp one M1) (s2 : Sp two M2) (x4 x5 x6 x10 x11 x12 x13 x14 x15 : Sl) :
    ∀ (bs : Wt), (∀ q ∈ bs, q ∈ one) → ∀ (n : Nat) (es : Ws) (x8 x9 : Sl), WsOk M1 M2 n es → n + bs.length ≤ 900 →
    ∃ es' t8 t9, WsOk M1 M2 (n + bs.length) es' ∧ forL (fun d ρ1 => (bindP (.cons (.v 8) (.cons (.v 9) .nil)) d ρ1).bind fun ρ2 => evSs G caB ρ2) (bs.map prD) [.fz (spD one), .fz (spD two), .fz (wD two), .fz (sD (rtS one two)), x4, x5, x6, .tr (wsT es), x8, x9, x10, x11, x12, x13, x14, x15] = some (.nx [.fz (spD one), .fz (spD two), .fz (wD two), .fz (sD (rtS one two)), x4, x5, x6, .tr (wsT es'), t8, t9, x10, x11, x12, x13, x14, x15])
  | [], _, n, es, x8, x9, w, _ => ⟨es, x8, x9, w, rfl⟩
  | q :: bs, hb, n, es, x8, x9, w, hn => by
    have hq := hb q List.mem_cons_self
    simp only [List.length_cons] at hn
    have ndr : ((rtS one two).map (·.1)).Nodup := by
      have : (rtS one two).map (·.1) = one.map (·.1) := by
        unfold rtS rwS
        rw [List.map_map, List.map_map]
        rfl
      rw [this]
      exact s1.vs.nd
    have hr : (q.1, pr one q.1 / pr two q.1) ∈ rtS one two := by
      rw [← rt_same s1.vs]
      exact List.mem_map.mpr ⟨q, hq, rfl⟩
    obtain ⟨t1, u1⟩ := tot_bd h1 s1
    obtain ⟨t2, u2⟩ := tot_bd h2 s2
    have e1 := hG q.2 (tot one).toNat s1.vs.tn (Nat.lt_of_lt_of_le (show (tot one).toNat < 2 ^ 64 by omega) (Nat.pow_le_pow_right (by decide) (by decide)))
    rw [Int.toNat_of_nonneg (Int.le_of_lt t1), pr_mem s1.vs hq] at e1
    have e2 := hG (valW two q.1) (tot two).toNat s2.vs.tn (Nat.lt_of_lt_of_le (show (tot two).toNat < 2 ^ 64 by omega) (Nat.pow_le_pow_right (by decide) (by decide)))
    rw [Int.toNat_of_nonneg (Int.le_of_lt t2)] at e2
    have e2 : ap G "least_pair" [.int (valW two q.1), .int (tot two)] = some (fr (pr two q.1)) := e2
    have e3 : dget G.tups (wD two) (.int q.1) (.int 0) = some (.int (valW two q.1)) := by
      unfold wD
      rw [oget_ints, wk_look]
    have c3 : ixD G.tups (sD (rtS one two)) (.int q.1) = some (fr (pr one q.1 / pr two q.1)) := ix_sD ndr hr
    obtain ⟨es1, j, t', w0, w1, k1, k2, k3, k4, k5⟩ := ws_step (T := G.tups) w (by omega) (pr one q.1 / pr two q.1) (p := (pr one q.1, pr two q.1)) ⟨pr_bd s1 q.1, pr_bd s2 q.1⟩
    have st2 : evS G (.sdapp (.v 7) (.ix (.v 3) (.v 8)) (.tup (.cons (.call "least_pair" (.cons (.v 9) (.cons (.ix (.v 0) (.int 0)) .nil))) (.cons (.call "least_pair" (.cons (.get (.v 2) (.v 8) (.int 0)) (.cons (.ix (.v 1) (.int 0)) .nil))) .nil)))) [.fz (spD one), .fz (spD two), .fz (wD two), .fz (sD (rtS one two)), x4, x5, x6, .tr (wsT es), .fz (.int q.1), .fz (.int q.2), x10, x11, x12, x13, x14, x15] = some (.nx [.fz (spD one), .fz (spD two), .fz (wD two), .fz (sD (rtS one two)), x4, x5, x6, .tr (wsT es1), .fz (.int q.1), .fz (.int q.2), x10, x11, x12, x13, x14, x15]) :=
      ev_sdapp (ρ := [.fz (spD one), .fz (spD two), .fz (wD two), .fz (sD (rtS one two)), x4, x5, x6, .tr (wsT es), .fz (.int q.1), .fz (.int q.2), x10, x11, x12, x13, x14, x15]) (i := 7) rfl (ev_ixx (ev_vv rfl) (ev_vv rfl) c3) (fun u => ev_tup2 (ev_call2 (ev_vv rfl) (ev_ixx (ev_vv rfl) ev_ii (ix_spD0 one)) e1) (ev_call2 (ev_get3 (ev_vv rfl) (ev_vv rfl) ev_ii e3) (ev_ixx (ev_vv rfl) ev_ii (ix_spD0 two)) e2)) k2 k3 k4 k5
    obtain ⟨es', t8, t9, g1, g2⟩ := ca_loop hG h1 h2 hM1 hM2 s1 s2 x4 x5 x6 x10 x11 x12 x13 x14 x15 bs (fun x hx => hb x (List.mem_cons_of_mem _ hx)) (n + 1) es1 (.fz (.int q.1)) (.fz (.int q.2)) k1 (by omega)
    have el : n + (q :: bs).length = n + 1 + bs.length := by simp only [List.length_cons]; omega
    rw [el]
    refine ⟨es', t8, t9, g1, ?_⟩
    rw [List.map_cons, forL_cons]
    have st : (bindP (.cons (.v 8) (.cons (.v 9) .nil)) (prD q) [.fz (spD one), .fz (spD two), .fz (wD two), .fz (sD (rtS one two)), x4, x5, x6, .tr (wsT es), x8, x9, x10, x11, x12, x13, x14, x15]).bind (fun ρ2 => evSs G caB ρ2) = evSs G caB [.fz (spD one), .fz (spD two), .fz (wD two), .fz (sD (rtS one two)), x4, x5, x6, .tr (wsT es), .fz (.int q.1), .fz (.int q.2), x10, x11, x12, x13, x14, x15] := rfl
    have st3 : evSs G caB [.fz (spD one), .fz (spD two), .fz (wD two), .fz (sD (rtS one two)), x4, x5, x6, .tr (wsT es), .fz (.int q.1), .fz (.int q.2), x10, x11, x12, x13, x14, x15] = some (.nx [.fz (spD one), .fz (spD two), .fz (wD two), .fz (sD (rtS one two)), x4, x5, x6, .tr (wsT es1), .fz (.int q.1), .fz (.int q.2), x10, x11, x12, x13, x14, x15]) := by
      unfold caB
      rw [evSs_nx st2]
      rfl
    rw [st, st3, Option.bind_some]
    exact g2
/-- the last of what ascends is the greatest -/
theorem asc_last {l ms : List Rat} (a : Asc l ms) {m : Rat} (hm : m ∈ ms) (hb : ∀ r ∈ ms, r ≤ m) : ∃ r', l.reverse = m :: r' := by
  have ml := (a.mem m).mpr hm
  have ne : l.reverse ≠ [] := fun e => by
    have : l = [] := by simpa using e
    rw [this] at ml
    cases ml
  obtain ⟨c, r', e⟩ := List.exists_cons_of_ne_nil ne
  have el : l = r'.reverse ++ [c] := by
    have := congrArg List.reverse e
    simpa using this
  have inc := a.inc
  rw [el] at inc
  have hc : ∀ x ∈ r'.reverse, x < c := fun x hx => (List.pairwise_append.mp inc).2.2 x hx c (by simp)
  have cm : c ≤ m := hb c ((a.mem c).mp (by rw [el]; simp))
  have mc : m ≤ c := by
    rw [el, List.mem_append] at ml
    rcases ml with h | h
    · have := hc m h; grind
    · rw [List.mem_singleton.mp h]; grind
  have : c = m := by grind
  exact ⟨r', by rw [e, this]⟩
theorem rtS_sz {M1 M2 : Nat} (h1 : 0 < M1) (h2 : 0 < M2) (hM1 : M1 < 2 ^ 64) (hM2 : M2 < 2 ^ 64) {one two : Wt} (s1 : Sp one M1) (s2 : Sp two M2) (sub : Sub one two) : ∀ r ∈ (rtS one two).map (·.2), Sz 128 r := by
  intro r hr
  obtain ⟨k, hk, e⟩ := (rt_mem s1.vs).mp hr
  obtain ⟨q, hq, e2⟩ := List.mem_map.mp hk
  subst e2
  obtain ⟨v, hv⟩ := lookup_of_mem (sub q hq)
  have hv2 : (q.1, v) ∈ two := (lookup_mem_iff s2.vs.nd).mp hv
  obtain ⟨t1, u1⟩ := tot_bd h1 s1
  obtain ⟨t2, u2⟩ := tot_bd h2 s2
  obtain ⟨p1, p2⟩ := mem_le_tot s1.vs hq
  obtain ⟨p3, p4⟩ := mem_le_tot s2.vs hv2
  simp only at p3 p4
  have ep1 : pr one q.1 = (q.2 : Rat) / (tot one : Rat) := by rw [← pr_mem s1.vs hq, Rat.mkRat_eq_div, s1.vs.tr]
  have ep2 : pr two q.1 = (v : Rat) / (tot two : Rat) := by rw [← pr_mem s2.vs hv2, Rat.mkRat_eq_div, s2.vs.tr]
  rw [e, ep1, ep2, ← mkRat_ratio t1 (by omega) t2]
  have n1 : (q.2 * tot two).natAbs < 2 ^ 128 := natAbs_mul_lt (n := 64) (m := 64) (by omega) (by omega)
  have n2 : (v * tot one).natAbs < 2 ^ 128 := natAbs_mul_lt (n := 64) (m := 64) (by omega) (by omega)
  exact mkRat_sz (n := 128) n1 (by omega) (by decide)
theorem lc_notN {G : Gb} {i : Nat} {it : Iu} {ρ : En} (hi : i < ρ.length) {rs : List Rat} (hit : evI G it ρ = some (rs.map fr)) : ev G (.lc [i] (.v i) (.v i) it (.some (.notN (.v i)))) ρ = some (.list (rs.map fr)) := by
  refine ev_lc hit (compL_all rs fun r _ => ?_)
  have g : ∀ ρ' : En, i < ρ'.length → En.get (ρ'.set i (.fz (fr r))) i = some (fr r) := fun ρ' h' => by
    unfold En.get
    rw [List.getElem?_set_self h']
  have hw : i < (wipeE ρ [i]).length := by simpa [wipeE] using hi
  have nn : isNo (fr r) = false := rfl
  simp only [stepL, bindP, Option.bind_some, evC, xnotN, xv, g _ hw, Option.map_some, nn, asB, Bool.not_false, if_true]
theorem a_curve {M1 M2 : Nat} (h1 : 0 < M1) (h2 : 0 < M2) (hM1 : M1 < 2 ^ 64) (hM2 : M2 < 2 ^ 64) {one two : Wt} (s1 : Sp one M1) (s2 : Sp two M2) (sub : Sub one two) : ∃ ds, ∀ k, k ≤ pl "curve" → ap (Gk k) "curve" [spD one, spD two] = some (.tuple (ds ++ [.tuple [fr (RtQ one two), fr 0]])) := by
  have e1 := a_both s1.vs s2.vs _ (show pl "curve" + 1 ≤ pl "_check_both" by decide +kernel)
  have e2 := dict_rows (T := (Gk (pl "curve" + 1)).tups) s2.vs.ne s2.vs.nd
  have e3 := a_ratios h1 h2 hM1 hM2 s1 s2 sub _ (show pl "curve" + 1 ≤ pl "ratios_of" by decide +kernel)
  obtain ⟨rs, hrs⟩ : ∃ rs, rs = (rtS one two).map (·.2) := ⟨_, rfl⟩
  have lrs : rs.length ≤ 60 := by
    rw [hrs]
    have := s1.len
    unfold rtS rwS
    simp
    exact this
  have szr : ∀ r ∈ (0 :: rs), Sz 128 r := fun r hr => by
    rcases List.mem_cons.mp hr with e | hr
    · rw [e]; exact ((bd0 1 0).sz (by decide) (n := 2) (m := 2) (by decide) (by decide)).mono (by decide)
    · rw [hrs] at hr; exact rtS_sz h1 h2 hM1 hM2 s1 s2 sub r hr
  obtain ⟨l, al, e4⟩ := a_sorted (ms := 0 :: rs) (fun r hr => (szr r hr).mono (by decide)) (by simp; omega)
  have e4 := e4 _ (show pl "curve" + 1 ≤ pl "sorted_shares" by decide +kernel)
  obtain ⟨m1, m2, m3⟩ := mx_le rs 0
  have eR : RtQ one two = rs.foldl mxR 0 := by rw [hrs]; rfl
  have mR : RtQ one two ∈ 0 :: rs := by
    rw [eR]
    rcases m3 with e | e
    · rw [e]; exact List.mem_cons_self
    · exact List.mem_cons_of_mem _ e
  have bR : ∀ r ∈ 0 :: rs, r ≤ RtQ one two := fun r hr => by
    rw [eR]
    rcases List.mem_cons.mp hr with e | hr
    · rw [e]; exact m1
    · exact m2 r hr
  obtain ⟨r', el⟩ := asc_last al mR bR
  have ll := al.len
  obtain ⟨es, t8, t9, we, g1⟩ := ca_loop (G := Gk (pl "curve" + 1)) (fun a b hb hb2 => a_lp a b hb hb2 _ (show pl "curve" + 1 ≤ pl "least_pair" by decide +kernel)) h1 h2 hM1 hM2 s1 s2 (.fz (.list (l.map fr))) (.fz (fr 0)) (.fz (fr 0)) .un .un .un .un .un .un one (fun q hq => hq) 0 [] .un .un ⟨Nat.le_refl _, nofun⟩ (by have := s1.len; omega)
  have we : WsOk M1 M2 60 es := ⟨by have := we.len; have := s1.len; omega, fun e he => ⟨by have := (we.row e he).1; have := s1.len; omega, (we.row e he).2⟩⟩
  have lrev : l.reverse.length = l.length := List.length_reverse
  obtain ⟨o', t', u10, u13, u14, gs, hgs, g2⟩ := cv_out (G := Gk (pl "curve" + 1)) (fun r s hr hs => a_plus hr hs _ (show pl "curve" + 1 ≤ pl "plus" by decide +kernel)) (fun r s hr hs => a_minus hr hs _ (show pl "curve" + 1 ≤ pl "minus" by decide +kernel)) (fun r s hr hs => a_times hr hs _ (show pl "curve" + 1 ≤ pl "times" by decide +kernel))
    h1 h2 hM1 hM2 we (.fz (spD one)) (.fz (spD two)) (.fz (wD two)) (.fz (sD (rtS one two))) (.fz (.list (l.map fr))) t8 t9 .un .un l.reverse 0 0 0 [] .un .un .un (bd0 M1 0) (bd0 M2 0) (fun c hc => (szr c ((al.mem c).mp (by simpa using hc))).mono (by decide)) (by simp at ll; omega) (by simp at ll ⊢; omega)
  obtain ⟨gs', eg⟩ := hgs _ _ el
  have z0 : (0 : Rat) - RtQ one two * 0 = 0 := by grind
  rw [z0] at eg
  refine ⟨gs'.reverse, at_ rfl rfl ?_⟩
  refine run_of (ρ := [.fz (spD one), .fz (spD two), .un, .un, .un, .un, .un, .un, .un, .un, .un, .un, .un, .un, .un, .un]) rfl rfl ?_
  have eb : K03.b_curve = .cons (.ex (.call "_check_both" (.cons (.v 0) (.cons (.v 1) .nil)))) (.cons (.asg (.v 2) (.bi .dict (.cons (.ix (.v 1) (.int 1)) .nil))) (.cons (.asg (.v 3) (.call "ratios_of" (.cons (.v 0) (.cons (.v 1) .nil)))) (.cons (.asg (.v 4) (.call "sorted_shares" (.cons (.op .add (.lst (.cons (.g "NOUGHT") .nil)) (.lc [15] (.v 15) (.v 15) (.vals (.v 3)) (.some (.notN (.v 15))))) .nil))) (.cons (.par 5 6 (.ex (.g "NOUGHT")) (.ex (.g "NOUGHT"))) (.cons (.new 7 (.tr .nd)) (.cons (.for_ (.cons (.v 8) (.cons (.v 9) .nil)) (.seq (.ix (.v 0) (.int 1))) caB) (.cons (.fz 7 (.for_ (.cons (.v 10) (.cons (.v 11) .nil)) (.seq (.get (.v 7) .non (.lst .nil))) (.cons (.asg (.v 5) (.call "plus" (.cons (.v 5) (.cons (.v 10) .nil)))) .nil))) (.cons (.new 12 (.nl .nil)) (.cons (.for_ (.v 13) (.seq (.rev (.v 4))) cvB) (.cons (.fz 12 (.ret (.bi .tuple (.cons (.rev (.v 12)) .nil)))) .nil)))))))))) := rfl
  show evSs _ K03.b_curve _ = _
  rw [eb]
  rw [evSs_nx (ρ' := [.fz (spD one), .fz (spD two), .un, .un, .un, .un, .un, .un, .un, .un, .un, .un, .un, .un, .un, .un]) (by simp [-List.map_map, xcall, xv, xnon, xbl, xint, xstr, xg, xop, xcmp, xchain, xisN, xnotN, xand, xor, xnot, xite, xbi, xisi, xtup, xlst, xix, xsl, xrev, xget, xlvals, xoget, xolen, evs, evO, evC, evS, evSs, evR, bindP, unpD, freeze, wipeE, En.get, En.own, asB, asI, isNo, e1])]
  have d2 : ev (Gk (pl "curve" + 1)) (.bi .dict (.cons (.ix (.v 1) (.int 1)) .nil)) [.fz (spD one), .fz (spD two), .un, .un, .un, .un, .un, .un, .un, .un, .un, .un, .un, .un, .un, .un] = some (wD two) := by simp [-List.map_map, xcall, xv, xnon, xbl, xint, xstr, xg, xop, xcmp, xchain, xisN, xnotN, xand, xor, xnot, xite, xbi, xisi, xtup, xlst, xix, xsl, xrev, xget, xlvals, xoget, xolen, evs, evO, evC, evS, evSs, evR, bindP, unpD, freeze, wipeE, En.get, En.own, asB, asI, isNo, e2, ix_spD]
  rw [evSs_nx (ρ' := [.fz (spD one), .fz (spD two), .fz (wD two), .un, .un, .un, .un, .un, .un, .un, .un, .un, .un, .un, .un, .un]) (ev_asg d2)]
  rw [evSs_nx (ρ' := [.fz (spD one), .fz (spD two), .fz (wD two), .fz (sD (rtS one two)), .un, .un, .un, .un, .un, .un, .un, .un, .un, .un, .un, .un]) (ev_asg (ev_call2 (ev_vv rfl) (ev_vv rfl) e3))]
  have it4 : evI (Gk (pl "curve" + 1)) (.vals (.v 3)) [.fz (spD one), .fz (spD two), .fz (wD two), .fz (sD (rtS one two)), .un, .un, .un, .un, .un, .un, .un, .un, .un, .un, .un, .un] = some (rs.map fr) := by
    have g : En.get [.fz (spD one), .fz (spD two), .fz (wD two), .fz (sD (rtS one two)), .un, .un, .un, .un, .un, .un, .un, .un, .un, .un, .un, .un] 3 = some (sD (rtS one two)) := rfl
    simp only [evI, xv, g, Option.bind_some]
    rw [vals_sD, hrs, List.map_map]
    rfl
  have d4 := lc_notN (i := 15) (by simp) it4
  have d5 : ev (Gk (pl "curve" + 1)) (.op .add (.lst (.cons (.g "NOUGHT") .nil)) (.lc [15] (.v 15) (.v 15) (.vals (.v 3)) (.some (.notN (.v 15))))) [.fz (spD one), .fz (spD two), .fz (wD two), .fz (sD (rtS one two)), .un, .un, .un, .un, .un, .un, .un, .un, .un, .un, .un, .un] = some (.list ((0 :: rs).map fr)) := by
    refine ev_opp (ev_sl3 (x := fr 0) (by rw [xg]; exact cN _)) d4 ?_
    simp only [opD]
    rw [if_pos (by unfold szOk sizeLine; exact decide_eq_true (by simp; omega))]
    rfl
  rw [evSs_nx (ρ' := [.fz (spD one), .fz (spD two), .fz (wD two), .fz (sD (rtS one two)), .fz (.list (l.map fr)), .un, .un, .un, .un, .un, .un, .un, .un, .un, .un, .un]) (ev_asg (ev_call1 d5 e4))]
  rw [evSs_nx (ρ' := [.fz (spD one), .fz (spD two), .fz (wD two), .fz (sD (rtS one two)), .fz (.list (l.map fr)), .fz (fr 0), .fz (fr 0), .un, .un, .un, .un, .un, .un, .un, .un, .un]) (par_of (x := fr 0) (y := fr 0) (by rw [xg]; exact cN _) (by rw [xg]; exact cN _))]
  rw [evSs_nx (ρ' := [.fz (spD one), .fz (spD two), .fz (wD two), .fz (sD (rtS one two)), .fz (.list (l.map fr)), .fz (fr 0), .fz (fr 0), .tr (wsT []), .un, .un, .un, .un, .un, .un, .un, .un]) rfl]
  have it6 : evI (Gk (pl "curve" + 1)) (.seq (.ix (.v 0) (.int 1))) [.fz (spD one), .fz (spD two), .fz (wD two), .fz (sD (rtS one two)), .fz (.list (l.map fr)), .fz (fr 0), .fz (fr 0), .tr (wsT []), .un, .un, .un, .un, .un, .un, .un, .un] = some (one.map prD) := rfl
  rw [evSs_nx (evS_for it6 g1)]
  have it7 : evI (Gk (pl "curve" + 1)) (.seq (.get (.v 7) .non (.lst .nil))) (cvE (.fz (spD one)) (.fz (spD two)) (.fz (wD two)) (.fz (sD (rtS one two))) (.fz (.list (l.map fr))) (.fz (wsD es)) t8 t9 .un .un 0 0 .un .un .un .un) = some [] :=
    evI_seq (ev_get3 (ev_vv rfl) xnon (by rw [xlst]; rfl) (ws_none es))
  have s7 : evS (Gk (pl "curve" + 1)) (.fz 7 (.for_ (.cons (.v 10) (.cons (.v 11) .nil)) (.seq (.get (.v 7) .non (.lst .nil))) (.cons (.asg (.v 5) (.call "plus" (.cons (.v 5) (.cons (.v 10) .nil)))) .nil))) [.fz (spD one), .fz (spD two), .fz (wD two), .fz (sD (rtS one two)), .fz (.list (l.map fr)), .fz (fr 0), .fz (fr 0), .tr (wsT es), t8, t9, .un, .un, .un, .un, .un, .un] = some (.nx (cvE (.fz (spD one)) (.fz (spD two)) (.fz (wD two)) (.fz (sD (rtS one two))) (.fz (.list (l.map fr))) (.fz (wsD es)) t8 t9 .un .un 0 0 .un .un .un .un)) := by
    rw [fz_tr (t := wsT es) rfl, toD_ws]
    exact evS_for it7 rfl
  rw [evSs_nx s7]
  rw [evSs_nx (ρ' := cvE (.fz (spD one)) (.fz (spD two)) (.fz (wD two)) (.fz (sD (rtS one two))) (.fz (.list (l.map fr))) (.fz (wsD es)) t8 t9 .un .un 0 0 .un (.ow (.list [])) .un .un) rfl]
  have it8 : evI (Gk (pl "curve" + 1)) (.seq (.rev (.v 4))) (cvE (.fz (spD one)) (.fz (spD two)) (.fz (wD two)) (.fz (sD (rtS one two))) (.fz (.list (l.map fr))) (.fz (wsD es)) t8 t9 .un .un 0 0 .un (.ow (.list [])) .un .un) = some (l.reverse.map fr) := by
    refine evI_seq ?_
    rw [xrev, ev_vv (d := .list (l.map fr)) rfl]
    simp only [Option.bind_some, revD, List.map_reverse]
  rw [evSs_nx (evS_for it8 g2)]
  refine evSs_rt ?_
  rw [eg, List.nil_append]
  have fz : ∀ (s : St) (ds : List D), evS (Gk (pl "curve" + 1)) (.fz 12 s) (cvE (.fz (spD one)) (.fz (spD two)) (.fz (wD two)) (.fz (sD (rtS one two))) (.fz (.list (l.map fr))) (.fz (wsD es)) t8 t9 .un .un o' t' u10 (.ow (.list ds)) u13 u14) = evS (Gk (pl "curve" + 1)) s (cvE (.fz (spD one)) (.fz (spD two)) (.fz (wD two)) (.fz (sD (rtS one two))) (.fz (.list (l.map fr))) (.fz (wsD es)) t8 t9 .un .un o' t' u10 (.fz (.list ds)) u13 u14) := fun s ds => by
    simp only [evS]
    rfl
  rw [fz]
  have er : ev (Gk (pl "curve" + 1)) (.rev (.v 12)) (cvE (.fz (spD one)) (.fz (spD two)) (.fz (wD two)) (.fz (sD (rtS one two))) (.fz (.list (l.map fr))) (.fz (wsD es)) t8 t9 .un .un o' t' u10 (.fz (.list (.tuple [fr (RtQ one two), fr 0] :: gs'))) u13 u14) = some (.list (gs'.reverse ++ [.tuple [fr (RtQ one two), fr 0]])) := by
    rw [xrev, ev_vv (d := .list (.tuple [fr (RtQ one two), fr 0] :: gs')) rfl]
    simp only [Option.bind_some, revD, List.reverse_cons]
  have rt : ∀ {e : Ex} {ρ : En} {d : D}, ev (Gk (pl "curve" + 1)) e ρ = some d → evS (Gk (pl "curve" + 1)) (.ret e) ρ = some (.rt d) := fun h => by simp only [evS, h, Option.map_some]
  exact rt (ev_tup_of er)
end PL


set_option Elab.async false
set_option linter.all false
set_option maxRecDepth 100000
set_option exponentiation.threshold 20000
/-! R6: greatest ratios of what is mapped and mixed; helpers for the law. -/
namespace PL
open PySem
theorem cut_from (l : List Int) (n : Nat) (h : n ≤ l.length) : cutD (l.map PyData.int) (some (n : Int)) none = (l.drop n).map PyData.int := by
  unfold cutD
  rw [HT.sIx_none, HT.sIx_nat, List.length_map, Nat.min_eq_left h, List.map_drop]
  rw [List.take_of_length_le]
  simp
theorem pick {P : Nat → Wt → Prop} {m : Nat} (h : ∀ x, x < m → ∃ w, P x w) : ∃ W : Nat → Wt, ∀ x, x < m → P x (W x) := by
  classical
  refine ⟨fun x => if hx : x < m then (h x hx).choose else [], fun x hx => ?_⟩
  simp only [dif_pos hx]
  exact (h x hx).choose_spec
theorem a_low {a : Int} {b : Nat} (hb : 0 < b) (h1 : b < 2 ^ 1900) : ap (Gk 1) "_law_lowest" [.int a, .int (b : Int)] = some (fr (mkRat a b)) := a_lowest a b hb h1 1 (by decide +kernel)
theorem notab {x y : Rat} (hx : Se x) (hy : Se y) (h : x ≤ y) : ap (Gk 1) "_law_is_above" [fr x, fr y] = some (.bool false) := by
  have := a_labove hx hy 1 (by decide +kernel)
  rw [decide_eq_false (by grind)] at this
  exact this
theorem fr1t : fr 1 = .tuple [.int 1, .int 1] := rfl
theorem fr0t : fr 0 = .tuple [.int 0, .int 1] := rfl
theorem mix_two {w v : Wt} {M : Nat} (hM : 0 < M) (hM1 : M < 2 ^ 40) (sw : Sp w M) (sv : Sp v M) {h : Rat} (h0 : 0 ≤ h) (h1 : h ≤ 1) (hd : h.den ∣ 4) : ∃ b, Sp b (4 * M) ∧ (∀ k, pr b k = h * pr w k + (1 - h) * pr v k) ∧ ap (Gk 1) "mixed" [.tuple [.tuple [fr h, spD w], .tuple [fr (1 - h), spD v]]] = some (spD b) := by
  obtain ⟨b, s, p, r⟩ := a_mixed (ps := [(h, w), (1 - h, v)]) (A := 4) (B := M) (by decide) hM (by omega) (fun q hq => by
    simp only [List.mem_cons, List.mem_nil_iff, or_false] at hq
    rcases hq with e | e
    · subst e; exact ⟨h0, hd, sw⟩
    · subst e; exact ⟨by grind, dvd_sub (dvd_one 4) hd, sv⟩) (by simp only [List.map_cons, List.map_nil, List.sum_cons, List.sum_nil]; grind)
  refine ⟨b, s, fun k => ?_, r 1 (by decide +kernel)⟩
  rw [p]
  simp only [List.map_cons, List.map_nil, List.sum_cons, List.sum_nil]
  grind
theorem par3_of {G : Gb} {i j k : Nat} {a b c : Ex} {ρ : En} {x y z : D} (h1 : ev G a ρ = some x) (h2 : ev G b ρ = some y) (h3 : ev G c ρ = some z) : evS G (.par3 i j k (.ex a) (.ex b) (.ex c)) ρ = some (.nx (((ρ.set i (.fz x)).set j (.fz y)).set k (.fz z))) := by
  simp only [evS, evR, h1, h2, h3, Option.map_some, Option.bind_some]
theorem ite_of {G : Gb} {c a b : Ex} {ρ : En} {t : Bool} {x y : D} (hc : ev G c ρ = some (.bool t)) (ha : ev G a ρ = some x) (hb : ev G b ρ = some y) : ev G (.ite c a b) ρ = some (if t = true then x else y) := by
  rw [xite, hc]
  cases t <;> simp [asB, ha, hb]
theorem ev_neg1 {G : Gb} {ρ : En} : ev G (.neg (.int 1)) ρ = some (.int (-1)) := by
  simp only [ev, asI, Option.map_some]
theorem ix_last {T : List D} {ds : List D} {x : D} : ixD T (.tuple (ds ++ [x])) (.int (-1)) = some x := by
  show L2.atI (ds ++ [x]) (-1) = some x
  have e : L2.ixN (ds ++ [x]).length (-1) = some ds.length := by
    unfold L2.ixN
    rw [if_neg (by decide), if_pos (by simp; omega)]
    simp
    omega
  unfold L2.atI
  rw [e]
  simp
/-! ### images -/
theorem img_le {w1 w2 g1 g2 : Wt} {pairs : Wt} {r : Rat} (h : ∀ k, pr w1 k ≤ r * pr w2 k) (p1 : ∀ k, pr g1 k = smR 60 fun j => if valW pairs j = k then pr w1 j else 0) (p2 : ∀ k, pr g2 k = smR 60 fun j => if valW pairs j = k then pr w2 j else 0) (k : Int) : pr g1 k ≤ r * pr g2 k := by
  rw [p1, p2, ← smR_mul]
  refine smR_le fun j _ _ => ?_
  by_cases e : valW pairs j = k
  · rw [if_pos e, if_pos e]; exact h j
  · rw [if_neg e, if_neg e]; grind
theorem sub_le {w1 w2 : Wt} {M1 M2 : Nat} (s1 : Sp w1 M1) (s2 : Sp w2 M2) {r : Rat} (h : ∀ k, pr w1 k ≤ r * pr w2 k) : Sub w1 w2 := by
  refine sub_of s1 s2 fun k hk => ?_
  have h2 := pr_nn s2.vs k
  refine Decidable.byContradiction fun z => ?_
  have e : pr w2 k = 0 := by grind
  have := h k
  rw [e] at this
  grind
theorem img_one {w g : Wt} {pairs : Wt} (p : ∀ k, pr g k = smR 60 fun j => if valW pairs j = k then pr w j else 0) {j0 k0 : Int} (h0 : 0 ≤ j0) (h1 : j0 < (60 : Nat)) (hv : ∀ j : Int, 0 ≤ j → j < (60 : Nat) → (valW pairs j = k0 ↔ j = j0)) : pr g k0 = pr w j0 := by
  rw [p]
  have e := smR_one (n := 60) j0 h0 h1 (pr w j0)
  rw [← e]
  refine smR_congr fun j a b => ?_
  by_cases z : j = j0
  · rw [if_pos ((hv j a b).mpr z), if_pos z, z]
  · rw [if_neg fun y => z ((hv j a b).mp y), if_neg z]
/-! ### mixtures -/
theorem mix_pos {x y h : Rat} (hx : 0 < x) (hy : 0 < y) (h0 : 0 ≤ h) (h1 : h ≤ 1) : 0 < h * x + (1 - h) * y := by
  by_cases e : h = 0
  · subst e; grind
  · have hp : 0 < h := by grind
    have a := Rat.mul_pos hp hx
    have b := Rat.mul_nonneg (show 0 ≤ 1 - h by grind) (Rat.le_of_lt hy)
    grind
theorem mix_le {h r s m x y z : Rat} (h0 : 0 ≤ h) (h1 : h ≤ 1) (hy : 0 ≤ y) (hz : 0 ≤ z) (a : x ≤ r * y) (b : y ≤ s * z) (rm : r ≤ m) (sm : s ≤ m) : h * x + (1 - h) * y ≤ m * (h * y + (1 - h) * z) := by
  have h1' : 0 ≤ 1 - h := by grind
  have a1 : r * y ≤ m * y := Rat.mul_le_mul_of_nonneg_right rm hy
  have b1 : s * z ≤ m * z := Rat.mul_le_mul_of_nonneg_right sm hz
  have a2 : h * x ≤ h * (m * y) := Rat.mul_le_mul_of_nonneg_left (Rat.le_trans a a1) h0
  have b2 : (1 - h) * y ≤ (1 - h) * (m * z) := Rat.mul_le_mul_of_nonneg_left (Rat.le_trans b b1) h1'
  have e : m * (h * y + (1 - h) * z) = h * (m * y) + (1 - h) * (m * z) := by grind
  rw [e]
  grind
theorem mix_le1 {h r x y : Rat} (h0 : 0 ≤ h) (a : x ≤ r * y) : h * x + (1 - h) * y ≤ (1 + h * (r - 1)) * y := by
  have a2 : h * x ≤ h * (r * y) := Rat.mul_le_mul_of_nonneg_left a h0
  grind
/-- the law's own greatest of the ratios -/
theorem quot {a b : Rat} (ha : 0 ≤ a) (hb : 0 < b) : 0 < a.den * b.num.toNat ∧ mkRat (a.num * (b.den : Int)) (a.den * b.num.toNat) = a / b := by
  have bn : 0 < b.num := by
    have h1 := Rat.num_nonneg.mpr (Rat.le_of_lt hb)
    have h2 : b.num ≠ 0 := fun e => by
      have := Rat.num_eq_zero.mp e
      grind
    omega
  have hp : 0 < b.num.toNat := by omega
  refine ⟨Nat.mul_pos a.den_pos hp, ?_⟩
  have e1 := den_mul a
  have e2 := den_mul b
  have e3 : ((b.num.toNat : Nat) : Rat) = (b.num : Rat) := by rw [← Rat.intCast_natCast, Int.toNat_of_nonneg (by omega)]
  have d1 : ((a.den : Nat) : Rat) ≠ 0 := by exact_mod_cast a.den_nz
  have d2 : ((b.den : Nat) : Rat) ≠ 0 := by exact_mod_cast b.den_nz
  have b0 : b ≠ 0 := by grind
  rw [Rat.mkRat_eq_div]
  push_cast
  rw [e3, ← e1, ← e2]
  grind
/-- the greatest of the ratios at some values -/
structure Due (w1 w2 : Wt) (done : List Nat) (due : Rat) : Prop where
  nn : 0 ≤ due
  bd : ∀ k ∈ done, pr w1 (k : Int) / pr w2 (k : Int) ≤ due
  at_ : due = 0 ∨ ∃ k ∈ done, due = pr w1 (k : Int) / pr w2 (k : Int)
theorem due_eq {w1 w2 : Wt} {M1 M2 : Nat} (s1 : Sp w1 M1) (s2 : Sp w2 M2) (pos1 : ∀ k : Int, 0 < pr w1 k ↔ 0 ≤ k ∧ k < (5 : Nat)) (pos2 : ∀ k : Int, 0 < pr w2 k ↔ 0 ≤ k ∧ k < (5 : Nat)) (sub : Sub w1 w2) {due : Rat} (d : Due w1 w2 (List.range 5) due) : RtQ w1 w2 = due := by
  have bd : ∀ k : Int, pr w1 k ≤ due * pr w2 k := fun k => by
    by_cases hk : 0 ≤ k ∧ k < (5 : Nat)
    · have p2 := (pos2 k).mpr hk
      have := d.bd k.toNat (List.mem_range.mpr (by omega))
      rw [Int.toNat_of_nonneg hk.1] at this
      have h := Rat.mul_le_mul_of_nonneg_right this (Rat.le_of_lt p2)
      have e : pr w1 k / pr w2 k * pr w2 k = pr w1 k := by grind
      rw [e] at h
      exact h
    · have n1 : pr w1 k = 0 := by
        have := pr_nn s1.vs k
        have h2 : ¬ 0 < pr w1 k := fun z => hk ((pos1 k).mp z)
        grind
      rw [n1]
      exact Rat.mul_nonneg d.nn (pr_nn s2.vs k)
  rcases d.at_ with e | ⟨k, hk, e⟩
  · exfalso
    have p0 := (pos1 0).mpr (by decide)
    have := bd 0
    rw [e] at this
    grind
  · have hk := List.mem_range.mp hk
    have p1 := (pos1 (k : Int)).mpr (by omega)
    have p2 := (pos2 (k : Int)).mpr (by omega)
    exact RtQ_uniq s1 s2 sub bd ((pr_mem_iff s1.vs).mpr p1) (by rw [e]; grind)
end PL


set_option Elab.async false
set_option linter.all false
set_option maxRecDepth 100000
set_option exponentiation.threshold 20000
/-! R7: k03's law, one turn. -/
namespace PL
open PySem
def dueB : Ss := (.cons (.par 11 12 (.ex (.call "chance_of" (.cons (.v 3) (.cons (.v 10) .nil)))) (.ex (.call "chance_of" (.cons (.v 4) (.cons (.v 10) .nil))))) (.cons (.asg (.v 13) (.call "_law_lowest" (.cons (.op .mul (.ix (.v 11) (.int 0)) (.ix (.v 12) (.int 1))) (.cons (.op .mul (.ix (.v 11) (.int 1)) (.ix (.v 12) (.int 0))) .nil)))) (.cons (.asg (.v 9) (.ite (.call "_law_is_above" (.cons (.v 13) (.cons (.v 9) .nil))) (.v 13) (.v 9))) .nil)))
theorem due_loop {w1 w2 : Wt} {M1 M2 : Nat} (h1 : 0 < M1) (h2 : 0 < M2) (hM1 : M1 ≤ 100) (hM2 : M2 ≤ 100) (s1 : Sp w1 M1) (s2 : Sp w2 M2) (pos2 : ∀ k : Int, 0 < pr w2 k ↔ 0 ≤ k ∧ k < (5 : Nat)) (x0 x1 x2 x5 x6 x7 x8 x14 x15 x16 x17 x18 x19 : Sl) : ∀ (ks done : List Nat) (due : Rat) (x10 x11 x12 x13 : Sl), (∀ k ∈ ks, k < 5) → Due w1 w2 done due → Sz 20 due →
    ∃ due' t10 t11 t12 t13, Due w1 w2 (done ++ ks) due' ∧ Sz 20 due' ∧ forL (fun d ρ1 => (bindP (.v 10) d ρ1).bind fun ρ2 => evSs (Gk 1) dueB ρ2) (ks.map fun (j : Nat) => .int (j : Int)) [x0, x1, x2, .fz (spD w1), .fz (spD w2), x5, x6, x7, x8, .fz (fr due), x10, x11, x12, x13, x14, x15, x16, x17, x18, x19] = some (.nx [x0, x1, x2, .fz (spD w1), .fz (spD w2), x5, x6, x7, x8, .fz (fr due'), t10, t11, t12, t13, x14, x15, x16, x17, x18, x19])
  | [], done, due, x10, x11, x12, x13, _, d, z => ⟨due, x10, x11, x12, x13, by simpa using d, z, rfl⟩
  | k :: ks, done, due, x10, x11, x12, x13, hk, d, z => by
    have k5 := hk k List.mem_cons_self
    have p2 := (pos2 (k : Int)).mpr (by omega)
    have n1 := pr_nn s1.vs (k : Int)
    have c1 := a_chance h1 (by omega) s1 (k : Int) 1 (by decide +kernel)
    have c2 := a_chance h2 (by omega) s2 (k : Int) 1 (by decide +kernel)
    have b1 := pr_bd s1 (k : Int)
    have b2 := pr_bd s2 (k : Int)
    have u1 := b1.num h1
    have u2 := b2.num h2
    have v1 := Nat.le_of_dvd h1 b1.dv
    have v2 := Nat.le_of_dvd h2 b2.dv
    generalize ha : pr w1 (k : Int) = a at *
    generalize hb : pr w2 (k : Int) = b at *
    obtain ⟨q0, q1⟩ := quot n1 p2
    have bn : 0 ≤ b.num := Rat.num_nonneg.mpr (Rat.le_of_lt p2)
    have m1 := mul_small (a := a.num) (b := (b.den : Int)) (by omega) (by omega)
    have m2 := mul_small (a := (a.den : Int)) (b := b.num) (by omega) (by omega)
    have en : ((a.den * b.num.toNat : Nat) : Int) = (a.den : Int) * b.num := by
      push_cast
      rw [Int.toNat_of_nonneg bn]
    have hle : a.den * b.num.toNat ≤ 100 * 100 := Nat.mul_le_mul (by omega) (by omega)
    have e3 := a_low (a := a.num * (b.den : Int)) q0 (Nat.lt_of_le_of_lt hle (by decide))
    rw [en, q1] at e3
    have z1 : Sz 20 (a / b) := by
      rw [← q1]
      refine mkRat_sz ?_ (Nat.lt_of_le_of_lt hle (by decide)) (by decide)
      exact natAbs_mul_lt (n := 10) (m := 10) (by omega) (by omega)
    have e4 := a_labove (r := a / b) (s := due) (z1.mono (by decide)) (z.mono (by decide)) 1 (by decide +kernel)
    obtain ⟨due1, hd1⟩ : ∃ due1 : Rat, due1 = if due < a / b then a / b else due := ⟨_, rfl⟩
    have dd : Due w1 w2 (done ++ [k]) due1 := by
      have q0 : 0 ≤ a / b := by
        rcases (show a = 0 ∨ 0 < a by grind) with e | e
        · rw [e]; grind
        · exact Rat.le_of_lt (div_pos' e p2)
      have nn := d.nn
      refine ⟨?_, fun j hj => ?_, ?_⟩
      · rw [hd1]; split <;> assumption
      · rcases List.mem_append.mp hj with hj | hj
        · have := d.bd j hj
          rw [hd1]
          split
          · grind
          · exact this
        · rw [List.mem_singleton.mp hj, ha, hb, hd1]
          split <;> grind
      · rw [hd1]
        split
        · exact .inr ⟨k, by simp, by rw [ha, hb]⟩
        · rcases d.at_ with e | ⟨j, hj, e⟩
          · exact .inl e
          · exact .inr ⟨j, List.mem_append_left _ hj, e⟩
    have zz : Sz 20 due1 := by rw [hd1]; split <;> assumption
    obtain ⟨due', t10, t11, t12, t13, g1, g2, g3⟩ := due_loop h1 h2 hM1 hM2 s1 s2 pos2 x0 x1 x2 x5 x6 x7 x8 x14 x15 x16 x17 x18 x19 ks (done ++ [k]) due1 (.fz (.int (k : Int))) (.fz (fr a)) (.fz (fr b)) (.fz (fr (a / b))) (fun j hj => hk j (List.mem_cons_of_mem _ hj)) dd zz
    refine ⟨due', t10, t11, t12, t13, by simpa using g1, g2, ?_⟩
    rw [List.map_cons, forL_cons]
    have st : (bindP (.v 10) (.int (k : Int)) [x0, x1, x2, .fz (spD w1), .fz (spD w2), x5, x6, x7, x8, .fz (fr due), x10, x11, x12, x13, x14, x15, x16, x17, x18, x19]).bind (fun ρ2 => evSs (Gk 1) dueB ρ2) = evSs (Gk 1) dueB [x0, x1, x2, .fz (spD w1), .fz (spD w2), x5, x6, x7, x8, .fz (fr due), .fz (.int (k : Int)), x11, x12, x13, x14, x15, x16, x17, x18, x19] := rfl
    have st2 : evSs (Gk 1) dueB [x0, x1, x2, .fz (spD w1), .fz (spD w2), x5, x6, x7, x8, .fz (fr due), .fz (.int (k : Int)), x11, x12, x13, x14, x15, x16, x17, x18, x19] = some (.nx [x0, x1, x2, .fz (spD w1), .fz (spD w2), x5, x6, x7, x8, .fz (fr due1), .fz (.int (k : Int)), .fz (fr a), .fz (fr b), .fz (fr (a / b)), x14, x15, x16, x17, x18, x19]) := by
      unfold dueB
      rw [evSs_nx (ρ' := [x0, x1, x2, .fz (spD w1), .fz (spD w2), x5, x6, x7, x8, .fz (fr due), .fz (.int (k : Int)), .fz (fr a), .fz (fr b), x13, x14, x15, x16, x17, x18, x19]) (par_of (ev_call2 (ev_vv rfl) (ev_vv rfl) c1) (ev_call2 (ev_vv rfl) (ev_vv rfl) c2))]
      rw [evSs_nx (ρ' := [x0, x1, x2, .fz (spD w1), .fz (spD w2), x5, x6, x7, x8, .fz (fr due), .fz (.int (k : Int)), .fz (fr a), .fz (fr b), .fz (fr (a / b)), x14, x15, x16, x17, x18, x19]) (ev_asg (ev_call2 (ev_opp (ev_ixx (ev_vv rfl) ev_ii (fr0 a)) (ev_ixx (ev_vv rfl) ev_ii (fr1 b)) m1) (ev_opp (ev_ixx (ev_vv rfl) ev_ii (fr1 a)) (ev_ixx (ev_vv rfl) ev_ii (fr0 b)) m2) e3))]
      have e5 := ite_of (G := Gk 1) (a := .v 13) (b := .v 9) (ev_call2 (ρ := [x0, x1, x2, .fz (spD w1), .fz (spD w2), x5, x6, x7, x8, .fz (fr due), .fz (.int (k : Int)), .fz (fr a), .fz (fr b), .fz (fr (a / b)), x14, x15, x16, x17, x18, x19]) (a := .v 13) (b := .v 9) (ev_vv rfl) (ev_vv rfl) e4) (ev_vv rfl) (ev_vv rfl)
      have e6 : (if decide (due < a / b) = true then fr (a / b) else fr due) = fr due1 := by
        rw [hd1]
        by_cases c : due < a / b
        · rw [if_pos c, if_pos (decide_eq_true c)]
        · rw [if_neg c, if_neg (by simpa using c)]
      rw [e6] at e5
      rw [evSs_nx (ev_asg e5)]
      rfl
    rw [st, st2, Option.bind_some]
    exact g3
def T03__1 : St := (.asg (.cons (.v 3) (.cons (.v 4) (.cons (.v 5) .nil))) (.lc [10] (.call "_law_full" (.cons (.sl (.v 1) (.some (.op .add (.op .mul (.int 40) (.v 2)) (.op .mul (.int 13) (.v 10)))) .non) (.cons (.int 5) .nil))) (.v 10) (.rng1 (.int 3)) .non))
def T03__2 : St := (.par3 6 7 8 (.ex (.call "greatest_ratio" (.cons (.v 3) (.cons (.v 4) .nil)))) (.ex (.call "greatest_ratio" (.cons (.v 4) (.cons (.v 5) .nil)))) (.ex (.call "greatest_ratio" (.cons (.v 3) (.cons (.v 5) .nil)))))
def T03__3 : St := (.ife (.or_ (.call "_law_is_above" (.cons (.v 8) (.cons (.call "_law_times" (.cons (.v 6) (.cons (.v 7) .nil))) .nil))) (.or_ (.cmp .ne (.cmp .eq (.v 6) (.tup (.cons (.int 1) (.cons (.int 1) .nil)))) (.cmp .eq (.v 3) (.v 4))) (.call "_law_is_above" (.cons (.tup (.cons (.int 1) (.cons (.int 1) .nil))) (.cons (.v 6) .nil))))) (.cons (.ret (.bl false)) .nil) .nil)
def T03__4 : St := (.asg (.v 9) (.tup (.cons (.int 0) (.cons (.int 1) .nil))))
def T03__5 : St := (.for_ (.v 10) (.rng1 (.int 5)) (.cons (.par 11 12 (.ex (.call "chance_of" (.cons (.v 3) (.cons (.v 10) .nil)))) (.ex (.call "chance_of" (.cons (.v 4) (.cons (.v 10) .nil))))) (.cons (.asg (.v 13) (.call "_law_lowest" (.cons (.op .mul (.ix (.v 11) (.int 0)) (.ix (.v 12) (.int 1))) (.cons (.op .mul (.ix (.v 11) (.int 1)) (.ix (.v 12) (.int 0))) .nil)))) (.cons (.asg (.v 9) (.ite (.call "_law_is_above" (.cons (.v 13) (.cons (.v 9) .nil))) (.v 13) (.v 9))) .nil))))
def T03__6 : St := (.ife (.or_ (.cmp .ne (.v 6) (.v 9)) (.or_ (.cmp .ne (.call "left_over" (.cons (.v 3) (.cons (.v 4) (.cons (.v 6) .nil)))) (.tup (.cons (.int 0) (.cons (.int 1) .nil)))) (.cmp .ne (.ix (.call "curve" (.cons (.v 3) (.cons (.v 4) .nil))) (.neg (.int 1))) (.tup (.cons (.v 6) (.cons (.tup (.cons (.int 0) (.cons (.int 1) .nil))) .nil)))))) (.cons (.ret (.bl false)) .nil) .nil)
def T03__7 : St := (.asg (.v 14) (.call "ratio_at" (.cons (.v 3) (.cons (.v 4) .nil))))
def T03__8 : St := (.ife (.cmp .ne (.call "_law_times" (.cons (.v 6) (.cons (.call "chance_of" (.cons (.v 4) (.cons (.v 14) .nil))) .nil))) (.call "chance_of" (.cons (.v 3) (.cons (.v 14) .nil)))) (.cons (.ret (.bl false)) .nil) .nil)
def T03__9 : St := (.asg (.v 15) (.bi .tuple (.cons (.lc [10] (.tup (.cons (.v 10) (.cons (.op .sub (.int 40) (.op .mul (.int 7) (.v 10))) .nil))) (.v 10) (.rng1 (.int 5)) .non) .nil)))
def T03__10 : St := (.ife (.cmp .ne (.call "greatest_ratio" (.cons (.call "mapped" (.cons (.v 3) (.cons (.v 15) .nil))) (.cons (.call "mapped" (.cons (.v 4) (.cons (.v 15) .nil))) .nil))) (.v 6)) (.cons (.ret (.bl false)) .nil) .nil)
def T03__11 : St := (.asg (.v 16) (.bi .tuple (.cons (.lc [10] (.tup (.cons (.v 10) (.cons (.op .mod (.bi .int (.cons (.ix (.v 1) (.op .mod (.op .add (.v 2) (.op .mul (.int 7) (.v 10))) (.int 300))) .nil)) (.int 2)) .nil))) (.v 10) (.rng1 (.int 5)) .non) .nil)))
def T03__12 : St := (.ife (.call "_law_is_above" (.cons (.call "greatest_ratio" (.cons (.call "mapped" (.cons (.v 3) (.cons (.v 16) .nil))) (.cons (.call "mapped" (.cons (.v 4) (.cons (.v 16) .nil))) .nil))) (.cons (.v 6) .nil))) (.cons (.ret (.bl false)) .nil) .nil)
def T03__13 : St := (.asg (.v 17) (.call "_law_lowest" (.cons (.op .mod (.bi .int (.cons (.ix (.v 1) (.op .add (.int 250) (.v 2))) .nil)) (.int 5)) (.cons (.int 4) .nil))))
def T03__14 : St := (.asg (.v 18) (.call "_law_minus" (.cons (.tup (.cons (.int 1) (.cons (.int 1) .nil))) (.cons (.v 17) .nil))))
def T03__15 : St := (.par 11 12 (.ex (.call "mixed" (.cons (.tup (.cons (.tup (.cons (.v 17) (.cons (.v 3) .nil))) (.cons (.tup (.cons (.v 18) (.cons (.v 4) .nil))) .nil))) .nil))) (.ex (.call "mixed" (.cons (.tup (.cons (.tup (.cons (.v 17) (.cons (.v 4) .nil))) (.cons (.tup (.cons (.v 18) (.cons (.v 5) .nil))) .nil))) .nil))))
def T03__16 : St := (.asg (.v 19) (.ite (.call "_law_is_above" (.cons (.v 6) (.cons (.v 7) .nil))) (.v 6) (.v 7)))
def T03__17 : St := (.ife (.call "_law_is_above" (.cons (.call "greatest_ratio" (.cons (.v 11) (.cons (.v 12) .nil))) (.cons (.v 19) .nil))) (.cons (.ret (.bl false)) .nil) .nil)
def T03__18 : St := (.ife (.cmp .ne (.call "greatest_ratio" (.cons (.v 11) (.cons (.v 4) .nil))) (.call "_law_plus" (.cons (.tup (.cons (.int 1) (.cons (.int 1) .nil))) (.cons (.call "_law_times" (.cons (.v 17) (.cons (.call "_law_minus" (.cons (.v 6) (.cons (.tup (.cons (.int 1) (.cons (.int 1) .nil))) .nil))) .nil))) .nil)))) (.cons (.ret (.bl false)) .nil) .nil)
def T03__body : Ss := (.cons T03__1 (.cons T03__2 (.cons T03__3 (.cons T03__4 (.cons T03__5 (.cons T03__6 (.cons T03__7 (.cons T03__8 (.cons T03__9 (.cons T03__10 (.cons T03__11 (.cons T03__12 (.cons T03__13 (.cons T03__14 (.cons T03__15 (.cons T03__16 (.cons T03__17 (.cons T03__18 .nil))))))))))))))))))
theorem T03__law : K03.b_law = (.cons (.asg (.v 1) (.call "_law_draws" (.cons (.v 0) (.cons (.int 300) .nil)))) (.cons (.for_ (.v 2) (.rng1 (.int 6)) T03__body) (.cons (.ret (.bl true)) .nil))) := rfl

theorem k03_turn (scr : D) (ds : List Int) (hd : ds.length = 300) (t : Nat) (ht : t < 6) (y3 y4 y5 y6 y7 y8 y9 y10 y11 y12 y13 y14 y15 y16 y17 y18 y19 : Sl) : ∃ z3 z4 z5 z6 z7 z8 z9 z10 z11 z12 z13 z14 z15 z16 z17 z18 z19, evSs (Gk 1) T03__body [.fz scr, .fz (.list (ds.map PyData.int)), .fz (.int (t : Int)), y3, y4, y5, y6, y7, y8, y9, y10, y11, y12, y13, y14, y15, y16, y17, y18, y19] = some (.nx [.fz scr, .fz (.list (ds.map PyData.int)), .fz (.int (t : Int)), z3, z4, z5, z6, z7, z8, z9, z10, z11, z12, z13, z14, z15, z16, z17, z18, z19]) := by
  have dr : ∀ n : Nat, n < 300 - t → ∃ a : Int, ixD (Gk 1).tups (.list (ds.map PyData.int)) (.int ((n : Int) + (t : Int))) = some (.int a) := fun n hn => by
    obtain ⟨a, ha⟩ := draw_at (T := (Gk 1).tups) (ds := ds) (i := n + t) (by omega)
    rw [Int.natCast_add] at ha
    exact ⟨a, ha⟩
  obtain ⟨a1, ha1⟩ := dr 250 (by omega)
  have ha1 : ixD (Gk 1).tups (.list (ds.map PyData.int)) (.int (250 + (t : Int))) = some (.int a1) := ha1
  obtain ⟨W, hW⟩ := pick (m := 3) (P := fun x w => ∃ M, 0 < M ∧ M ≤ 30 ∧ Sp w M ∧ (∀ k : Int, 0 < pr w k ↔ 0 ≤ k ∧ k < (5 : Nat)) ∧ ap (Gk 1) "_law_full" [.list ((ds.drop (40 * t + 13 * x)).map PyData.int), .int 5] = some (spD w)) fun x hx => by
    obtain ⟨w, M, h1, h2, h3, h4, h5⟩ := a_full (ds := ds.drop (40 * t + 13 * x)) (n := 5) (by decide) (by decide) (by rw [List.length_drop]; omega)
    exact ⟨w, M, h1, by omega, h3, h4, h5 1 (by decide +kernel)⟩
  obtain ⟨M1, p1, q1, s1, k1, _⟩ := hW 0 (by decide)
  obtain ⟨M2, p2, q2, s2, k2, _⟩ := hW 1 (by decide)
  obtain ⟨M3, p3, q3, s3, k3, _⟩ := hW 2 (by decide)
  have e1 : ev (Gk 1) (.lc [10] (.call "_law_full" (.cons (.sl (.v 1) (.some (.op .add (.op .mul (.int 40) (.v 2)) (.op .mul (.int 13) (.v 10)))) .non) (.cons (.int 5) .nil))) (.v 10) (.rng1 (.int 3)) .non) [.fz scr, .fz (.list (ds.map PyData.int)), .fz (.int (t : Int)), y3, y4, y5, y6, y7, y8, y9, y10, y11, y12, y13, y14, y15, y16, y17, y18, y19] = some (.list [spD (W 0), spD (W 1), spD (W 2)]) := by
    refine (ev_tuple_rng (m := 3) (g := fun x => spD (W x)) (by decide) (by rw [xint]; rfl) fun x hx => ?_).trans rfl
    obtain ⟨_, _, _, _, _, hc⟩ := hW x hx
    have m1 := mul_small (a := 40) (b := (t : Int)) (by decide) (by omega)
    have m2 := mul_small (a := 13) (b := (x : Int)) (by decide) (by omega)
    have sl : slD (.list (ds.map PyData.int)) (some (40 * (t : Int) + 13 * (x : Int))) none = some (.list ((ds.drop (40 * t + 13 * x)).map PyData.int)) := by
      have := cut_from ds (40 * t + 13 * x) (by omega)
      push_cast at this
      show some (PyData.list (cutD _ _ none)) = _
      rw [this]
    unfold stepL
    rw [List.map_drop] at sl hc
    simp [-List.map_map, xcall, xv, xnon, xbl, xint, xstr, xg, xop, xcmp, xchain, xisN, xnotN, xand, xor, xnot, xite, xbi, xisi, xtup, xlst, xix, xsl, xrev, xget, xlvals, xoget, xolen, evs, evO, evC, evS, evSs, evR, bindP, unpD, freeze, wipeE, En.get, En.own, asB, asI, isNo, m1, m2, add_i, sl, hc]
  generalize hw1 : W 0 = w1 at *
  generalize hw2 : W 1 = w2 at *
  generalize hw3 : W 2 = w3 at *
  have n1 : M1 < 2 ^ 64 := by omega
  have n2 : M2 < 2 ^ 64 := by omega
  have n3 : M3 < 2 ^ 64 := by omega
  have u12 : Sub w1 w2 := sub_of s1 s2 fun k h => (k2 k).mpr ((k1 k).mp h)
  have u23 : Sub w2 w3 := sub_of s2 s3 fun k h => (k3 k).mpr ((k2 k).mp h)
  have u13 : Sub w1 w3 := sub_of s1 s3 fun k h => (k3 k).mpr ((k1 k).mp h)
  have g12 := a_gratio p1 p2 n1 n2 s1 s2 u12 1 (by decide +kernel)
  have g23 := a_gratio p2 p3 n2 n3 s2 s3 u23 1 (by decide +kernel)
  have g13 := a_gratio p1 p3 n1 n3 s1 s3 u13 1 (by decide +kernel)
  have z12 := Rt_sz p1 p2 n1 n2 s1 s2 u12
  have z23 := Rt_sz p2 p3 n2 n3 s2 s3 u23
  have z13 := Rt_sz p1 p3 n1 n3 s1 s3 u13
  obtain ⟨r0, rb, j0, hj0, rj⟩ := Rt_spec s1 s2 u12
  obtain ⟨_, sb, _⟩ := Rt_spec s2 s3 u23
  have rpos := RtQ_pos s1 s2 u12
  have tri := RtQ_tri s1 s2 s3 u12 u23 u13
  have ge1 := RtQ_ge1 s1 s2 u12
  have one1 := RtQ_one s1 s2 u12
  obtain ⟨rM, rdn⟩ := RtQ_bd p1 p2 s1 s2 u12
  have due_is := fun {due : Rat} (d : Due w1 w2 (List.range 5) due) => due_eq s1 s2 k1 k2 u12 d
  obtain ⟨cds, hcv⟩ := a_curve p1 p2 n1 n2 s1 s2 u12
  have hcv := hcv 1 (by decide +kernel)
  obtain ⟨ja, hja, hra⟩ := a_ratioat p1 p2 n1 n2 s1 s2 u12
  have hra := hra 1 (by decide +kernel)
  have j05 : 0 ≤ j0 ∧ j0 < (5 : Nat) := (k1 j0).mp ((pr_mem_iff s1.vs).mp hj0)
  generalize hr : RtQ w1 w2 = r at *
  generalize hs : RtQ w2 w3 = s at *
  generalize hf : RtQ w1 w3 = f at *
  have x1 : Sz 2 (1 : Rat) := ⟨by decide, by decide⟩
  have x0 : Sz 2 (0 : Rat) := ⟨by decide, by decide⟩
  -- 3
  have t1 := a_ltimes (r := r) (s := s) (z12.mono (by decide)) (z23.mono (by decide)) 1 (by decide +kernel)
  have szrs : Sz 256 (r * s) := Sz.mul z12 z23 (by decide)
  have t2 := notab (z13.mono (by decide)) (szrs.mono (by decide)) tri
  have t3 := eq_fr (T := (Gk 1).tups) r 1
  have t4 := eq_sp (T := (Gk 1).tups) w1 w2
  rw [show decide (r = 1) = decide (w1 = w2) from decide_eq_decide.mpr one1] at t3
  have t5 := ne_bool (T := (Gk 1).tups) (decide (w1 = w2))
  have t6 := notab (x1.mono (by decide)) (z12.mono (by decide)) ge1
  -- 5
  obtain ⟨due, v10, v11, v12, v13, hdue, zdue, hloop⟩ := due_loop p1 p2 (by omega) (by omega) s1 s2 k2 (.fz scr) (.fz (.list (ds.map PyData.int))) (.fz (.int (t : Int))) (.fz (spD w3)) (.fz (fr r)) (.fz (fr s)) (.fz (fr f)) y14 y15 y16 y17 y18 y19 (List.range 5) [] 0 y10 y11 y12 y13 (fun k hk => List.mem_range.mp hk) ⟨Rat.le_refl, by simp, .inl rfl⟩ (x0.mono (by decide))
  have hdue : r = due := due_is (by simpa using hdue)
  subst hdue
  -- 6
  have le30 : r ≤ ((1000 : Nat) : Rat) := Rat.le_trans rM (by exact_mod_cast (show M2 ≤ 1000 by omega))
  have h900 : M1 * M2 ≤ 30 * 30 := Nat.mul_le_mul q1 q2
  have hA : r.den * M2 ≤ 900 * 30 := Nat.mul_le_mul (by omega) q2
  have hAA : M1 * (r.den * M2) ≤ 30 * (900 * 30) := Nat.mul_le_mul q1 hA
  have o12 := a_over p1 p2 r.den_pos (by omega) s1 s2 r0 (Nat.dvd_refl _) le30 1 (by decide +kernel)
  have lf0 : Lf w1 w2 r = 0 := by
    unfold Lf smR
    refine sum_zero_r fun j _ => ?_
    have hx := rb (j : Int)
    show ppt (pr w1 (j : Int) - r * pr w2 (j : Int)) = 0
    unfold ppt
    split <;> grind
  have t7 : cmpD (Gk 1).tups .ne (fr r) (fr r) = some false := fr_ne rfl
  have t8 : cmpD (Gk 1).tups .ne (fr (Lf w1 w2 r)) (fr 0) = some false := fr_ne lf0
  have t9 : cmpD (Gk 1).tups .ne (.tuple [fr r, fr 0]) (.tuple [fr r, fr 0]) = some false := cmp_ne_same rfl
  -- 8
  have c1 := a_chance p1 n1 s1 ja 1 (by decide +kernel)
  have c2 := a_chance p2 n2 s2 ja 1 (by decide +kernel)
  have zb2 : Sz 84 (pr w2 ja) := (pr_bd s2 ja).sz p2 n2 (m := 20) (by decide)
  have t10 := a_ltimes (r := r) (s := pr w2 ja) (z12.mono (by decide)) (zb2.mono (by decide)) 1 (by decide +kernel)
  have t11 : cmpD (Gk 1).tups .ne (fr (r * pr w2 ja)) (fr (pr w1 ja)) = some false := fr_ne hja.symm
  -- 9, 10
  obtain ⟨mv, hmv⟩ : ∃ mv : Wt, mv = (List.range 5).map fun x : Nat => ((x : Int), 40 - 7 * (x : Int)) := ⟨_, rfl⟩
  have mvk : mv.map (·.1) = (List.range 5).map fun x : Nat => (x : Int) := by rw [hmv, List.map_map]; rfl
  have mvn : mv ≠ [] := by rw [hmv]; simp [List.range_succ]
  have mvd : (mv.map (·.1)).Nodup := by rw [mvk]; decide
  have mvb : ∀ q ∈ mv, 0 ≤ q.2 ∧ q.2 < (60 : Nat) := fun q hq => by
    rw [hmv] at hq
    obtain ⟨x, hx, e⟩ := List.mem_map.mp hq
    have := List.mem_range.mp hx
    subst e
    simp only
    omega
  have cov : ∀ {ps : Wt} (_ : ps.map (·.1) = (List.range 5).map fun x : Nat => (x : Int)) {w : Wt} {M : Nat}, Sp w M → (∀ k : Int, 0 < pr w k ↔ 0 ≤ k ∧ k < (5 : Nat)) → ∀ q ∈ w, q.1 ∈ ps.map (·.1) := fun {ps} hps {w M} sw hk q hq => by
    have h2 := (hk q.1).mp ((pr_mem_iff sw.vs).mp (List.mem_map_of_mem (f := Prod.fst) hq))
    rw [hps]
    exact List.mem_map.mpr ⟨q.1.toNat, List.mem_range.mpr (by omega), by omega⟩
  obtain ⟨b1, sb1, pb1, rb1⟩ := a_mapped p1 n1 s1 mvn mvd mvb (cov mvk s1 k1)
  obtain ⟨b2, sb2, pb2, rb2⟩ := a_mapped p2 n2 s2 mvn mvd mvb (cov mvk s2 k2)
  have rb1 := rb1 1 (by decide +kernel)
  have rb2 := rb2 1 (by decide +kernel)
  have lb := img_le rb pb1 pb2
  have ub := sub_le sb1 sb2 lb
  have gb := a_gratio p1 p2 n1 n2 sb1 sb2 ub 1 (by decide +kernel)
  have vals : ∀ n : Nat, n < 60 → valW ((List.range 5).map fun x : Nat => ((x : Int), 40 - 7 * (x : Int))) (n : Int) = if n < 5 then 40 - 7 * (n : Int) else 0 := by decide +kernel
  have hv : ∀ j : Int, 0 ≤ j → j < (60 : Nat) → (valW mv j = 40 - 7 * j0 ↔ j = j0) := fun j a b => by
    have h2 := vals j.toNat (by omega)
    rw [Int.toNat_of_nonneg a] at h2
    rw [hmv, h2]
    split <;> omega
  have ib1 := img_one pb1 j05.1 (by omega) hv
  have ib2 := img_one pb2 j05.1 (by omega) hv
  have gbe : RtQ b1 b2 = r := RtQ_uniq sb1 sb2 ub lb (k := 40 - 7 * j0) ((pr_mem_iff sb1.vs).mpr (by rw [ib1]; exact (k1 j0).mpr j05)) (by rw [ib1, ib2]; exact rj)
  rw [gbe] at gb
  -- 11, 12
  have dk : ∀ x : Nat, x < 5 → ∃ z : Int, ixD (Gk 1).tups (.list (ds.map PyData.int)) (.int (((t : Int) + 7 * (x : Int)) % 300)) = some (.int z) := fun x hx => by
    obtain ⟨z, hz⟩ := draw_at (T := (Gk 1).tups) (ds := ds) (i := (t + 7 * x) % 300) (by omega)
    refine ⟨z, ?_⟩
    rw [← hz]
    congr 2
  obtain ⟨u, hu⟩ : ∃ u : Nat → Int, ∀ x : Nat, x < 5 → ixD (Gk 1).tups (.list (ds.map PyData.int)) (.int (((t : Int) + 7 * (x : Int)) % 300)) = some (.int (u x)) := by
    classical
    refine ⟨fun x => if h : x < 5 then (dk x h).choose else 0, fun x hx => ?_⟩
    simp only [dif_pos hx]
    exact (dk x hx).choose_spec
  obtain ⟨prs, hprs⟩ : ∃ prs : Wt, prs = (List.range 5).map fun x : Nat => ((x : Int), u x % 2) := ⟨_, rfl⟩
  have kprs : prs.map (·.1) = (List.range 5).map fun x : Nat => (x : Int) := by rw [hprs, List.map_map]; rfl
  have ndp : (prs.map (·.1)).Nodup := by rw [kprs]; decide
  have pne : prs ≠ [] := by rw [hprs]; simp [List.range_succ]
  have pk : ∀ q ∈ prs, 0 ≤ q.2 ∧ q.2 < (60 : Nat) := fun q hq => by
    rw [hprs] at hq
    obtain ⟨x, hx, e⟩ := List.mem_map.mp hq
    subst e
    simp only
    omega
  obtain ⟨c1', sc1, pc1, rc1⟩ := a_mapped p1 n1 s1 pne ndp pk (cov kprs s1 k1)
  obtain ⟨c2', sc2, pc2, rc2⟩ := a_mapped p2 n2 s2 pne ndp pk (cov kprs s2 k2)
  have rc1 := rc1 1 (by decide +kernel)
  have rc2 := rc2 1 (by decide +kernel)
  have lc := img_le rb pc1 pc2
  have uc := sub_le sc1 sc2 lc
  have gc := a_gratio p1 p2 n1 n2 sc1 sc2 uc 1 (by decide +kernel)
  have t12 := notab ((Rt_sz p1 p2 n1 n2 sc1 sc2 uc).mono (by decide)) (z12.mono (by decide)) (RtQ_le sc1 sc2 uc lc)
  -- 13, 14
  have lh := a_low (a := a1 % 5) (b := 4) (by decide) (by decide)
  have lh : ap (Gk 1) "_law_lowest" [.int (a1 % 5), .int 4] = some (fr (mkRat (a1 % 5) 4)) := lh
  have h0 : 0 ≤ mkRat (a1 % 5) 4 := mk_nn (by decide) (by omega)
  have h1 : mkRat (a1 % 5) 4 ≤ ((1 : Nat) : Rat) := mk_le (by decide) (by omega)
  have hd4 := mkRat_dvd (a1 % 5) (b := 4) (by decide)
  generalize mkRat (a1 % 5) 4 = h at *
  have h1 : h ≤ 1 := by simpa using h1
  have xh : Sz 20 h := (show Bd 4 1 h from ⟨h0, by simpa using h1, hd4⟩).sz (by decide) (n := 10) (m := 10) (by decide) (by decide)
  have t13 := a_lminus (r := 1) (s := h) (x1.mono (by decide)) (xh.mono (by decide)) 1 (by decide +kernel)
  -- 15
  have P12 : 0 < M1 * M2 * M3 := Nat.mul_pos (Nat.mul_pos p1 p2) p3
  have Q12 : M1 * M2 * M3 ≤ 30 * 30 * 30 := Nat.mul_le_mul h900 q3
  have d1 : M1 ∣ M1 * M2 * M3 := Nat.dvd_trans (Nat.dvd_mul_right _ _) (Nat.dvd_mul_right _ _)
  have d2 : M2 ∣ M1 * M2 * M3 := Nat.dvd_trans (Nat.dvd_mul_left _ _) (Nat.dvd_mul_right _ _)
  have d3 : M3 ∣ M1 * M2 * M3 := Nat.dvd_mul_left _ _
  obtain ⟨m1, sm1, pm1, rm1⟩ := mix_two P12 (by omega) (s1.mono d1) (s2.mono d2) h0 h1 hd4
  obtain ⟨m2, sm2, pm2, rm2⟩ := mix_two P12 (by omega) (s2.mono d2) (s3.mono d3) h0 h1 hd4
  have N4 : 0 < 4 * (M1 * M2 * M3) := by omega
  have N5 : 4 * (M1 * M2 * M3) < 2 ^ 64 := by omega
  have kin : ∀ k, 0 < pr m1 k → 0 ≤ k ∧ k < (5 : Nat) := fun k hk => by
    refine Decidable.byContradiction fun z => ?_
    have e1 : pr w1 k = 0 := by
      have := pr_nn s1.vs k
      have h2 : ¬ 0 < pr w1 k := fun y => z ((k1 k).mp y)
      grind
    have e2 : pr w2 k = 0 := by
      have := pr_nn s2.vs k
      have h2 : ¬ 0 < pr w2 k := fun y => z ((k2 k).mp y)
      grind
    rw [pm1, e1, e2] at hk
    grind
  have um : Sub m1 m2 := sub_of sm1 sm2 fun k hk => by
    rw [pm2]
    exact mix_pos ((k2 k).mpr (kin k hk)) ((k3 k).mpr (kin k hk)) h0 h1
  have um2 : Sub m1 w2 := sub_of sm1 s2 fun k hk => (k2 k).mpr (kin k hk)
  have gm := a_gratio N4 N4 N5 N5 sm1 sm2 um 1 (by decide +kernel)
  have gm2 := a_gratio N4 p2 N5 n2 sm1 s2 um2 1 (by decide +kernel)
  -- 16, 17
  have t14 := a_labove (r := r) (s := s) (z12.mono (by decide)) (z23.mono (by decide)) 1 (by decide +kernel)
  obtain ⟨most, hmost⟩ : ∃ most : Rat, most = if s < r then r else s := ⟨_, rfl⟩
  have e6 : (if decide (s < r) = true then fr r else fr s) = fr most := by
    rw [hmost]
    by_cases c : s < r
    · rw [if_pos c, if_pos (decide_eq_true c)]
    · rw [if_neg c, if_neg (by simpa using c)]
  have zmost : Sz 128 most := by rw [hmost]; split <;> assumption
  have rmost : r ≤ most := by rw [hmost]; split <;> grind
  have smost : s ≤ most := by rw [hmost]; split <;> grind
  have lem : RtQ m1 m2 ≤ most := RtQ_le sm1 sm2 um fun k => by
    rw [pm1, pm2]
    exact mix_le h0 h1 (pr_nn s2.vs k) (pr_nn s3.vs k) (rb k) (sb k) rmost smost
  have t15 := notab ((Rt_sz N4 N4 N5 N5 sm1 sm2 um).mono (by decide)) (zmost.mono (by decide)) lem
  -- 18
  have gme : RtQ m1 w2 = 1 + h * (r - 1) := by
    have p0 := (k1 j0).mpr j05
    have p02 := (k2 j0).mpr j05
    refine RtQ_uniq sm1 s2 um2 (fun k => by rw [pm1]; exact mix_le1 h0 (rb k)) (k := j0) ((pr_mem_iff sm1.vs).mpr (by rw [pm1]; exact mix_pos p0 p02 h0 h1)) ?_
    rw [pm1, rj]
    grind
  have t16 := a_lminus (r := r) (s := 1) (z12.mono (by decide)) (x1.mono (by decide)) 1 (by decide +kernel)
  have zr1 : Sz 131 (r - 1) := Sz.sub z12 x1
  have t17 := a_ltimes (r := h) (s := r - 1) (xh.mono (by decide)) (zr1.mono (by decide)) 1 (by decide +kernel)
  have zhr : Sz 151 (h * (r - 1)) := Sz.mul xh zr1 (by decide)
  have t18 := a_lplus (r := 1) (s := h * (r - 1)) (x1.mono (by decide)) (zhr.mono (by decide)) 1 (by decide +kernel)
  have t19 : cmpD (Gk 1).tups .ne (fr (RtQ m1 w2)) (fr (1 + h * (r - 1))) = some false := fr_ne gme
  unfold T03__body
  rw [evSs_nx (ρ' := [.fz scr, .fz (.list (ds.map PyData.int)), .fz (.int (t : Int)), .fz (spD w1), .fz (spD w2), .fz (spD w3), y6, y7, y8, y9, y10, y11, y12, y13, y14, y15, y16, y17, y18, y19]) (by unfold T03__1; simp [-List.map_map, xcall, xv, xnon, xbl, xint, xstr, xg, xop, xcmp, xchain, xisN, xnotN, xand, xor, xnot, xite, xbi, xisi, xtup, xlst, xix, xsl, xrev, xget, xlvals, xoget, xolen, evs, evO, evC, evS, evSs, evR, bindP, unpD, freeze, wipeE, En.get, En.own, asB, asI, isNo, e1])]
  rw [evSs_nx (ρ' := [.fz scr, .fz (.list (ds.map PyData.int)), .fz (.int (t : Int)), .fz (spD w1), .fz (spD w2), .fz (spD w3), .fz (fr r), .fz (fr s), .fz (fr f), y9, y10, y11, y12, y13, y14, y15, y16, y17, y18, y19]) (by unfold T03__2; exact par3_of (ev_call2 (ev_vv rfl) (ev_vv rfl) g12) (ev_call2 (ev_vv rfl) (ev_vv rfl) g23) (ev_call2 (ev_vv rfl) (ev_vv rfl) g13))]
  have e3 : ev (Gk 1) (.tup (.cons (.int 1) (.cons (.int 1) .nil))) [.fz scr, .fz (.list (ds.map PyData.int)), .fz (.int (t : Int)), .fz (spD w1), .fz (spD w2), .fz (spD w3), .fz (fr r), .fz (fr s), .fz (fr f), y9, y10, y11, y12, y13, y14, y15, y16, y17, y18, y19] = some (fr 1) := ev_tup2 ev_ii ev_ii
  rw [evSs_nx (ρ' := [.fz scr, .fz (.list (ds.map PyData.int)), .fz (.int (t : Int)), .fz (spD w1), .fz (spD w2), .fz (spD w3), .fz (fr r), .fz (fr s), .fz (fr f), y9, y10, y11, y12, y13, y14, y15, y16, y17, y18, y19]) (by unfold T03__3; exact ife_nil (ev_or_ff (ev_call2 (ev_vv rfl) (ev_call2 (ev_vv rfl) (ev_vv rfl) t1) t2) (ev_or_ff (ev_cmp (ev_cmp (ev_vv rfl) e3 t3) (ev_cmp (ev_vv rfl) (ev_vv rfl) t4) t5) (ev_call2 e3 (ev_vv rfl) t6))))]
  have e4 : ev (Gk 1) (.tup (.cons (.int 0) (.cons (.int 1) .nil))) [.fz scr, .fz (.list (ds.map PyData.int)), .fz (.int (t : Int)), .fz (spD w1), .fz (spD w2), .fz (spD w3), .fz (fr r), .fz (fr s), .fz (fr f), y9, y10, y11, y12, y13, y14, y15, y16, y17, y18, y19] = some (fr 0) := ev_tup2 ev_ii ev_ii
  rw [evSs_nx (ρ' := [.fz scr, .fz (.list (ds.map PyData.int)), .fz (.int (t : Int)), .fz (spD w1), .fz (spD w2), .fz (spD w3), .fz (fr r), .fz (fr s), .fz (fr f), .fz (fr 0), y10, y11, y12, y13, y14, y15, y16, y17, y18, y19]) (by unfold T03__4; exact ev_asg e4)]
  have it5 : evI (Gk 1) (.rng1 (.int 5)) [.fz scr, .fz (.list (ds.map PyData.int)), .fz (.int (t : Int)), .fz (spD w1), .fz (spD w2), .fz (spD w3), .fz (fr r), .fz (fr s), .fz (fr f), .fz (fr 0), y10, y11, y12, y13, y14, y15, y16, y17, y18, y19] = some ((List.range 5).map fun (j : Nat) => .int (j : Int)) := ev_rng (by rw [xint]; rfl) (by decide)
  rw [evSs_nx (ρ' := [.fz scr, .fz (.list (ds.map PyData.int)), .fz (.int (t : Int)), .fz (spD w1), .fz (spD w2), .fz (spD w3), .fz (fr r), .fz (fr s), .fz (fr f), .fz (fr r), v10, v11, v12, v13, y14, y15, y16, y17, y18, y19]) (by unfold T03__5; exact evS_for it5 hloop)]
  have e6a : ev (Gk 1) (.tup (.cons (.int 0) (.cons (.int 1) .nil))) [.fz scr, .fz (.list (ds.map PyData.int)), .fz (.int (t : Int)), .fz (spD w1), .fz (spD w2), .fz (spD w3), .fz (fr r), .fz (fr s), .fz (fr f), .fz (fr r), v10, v11, v12, v13, y14, y15, y16, y17, y18, y19] = some (fr 0) := ev_tup2 ev_ii ev_ii
  rw [evSs_nx (ρ' := [.fz scr, .fz (.list (ds.map PyData.int)), .fz (.int (t : Int)), .fz (spD w1), .fz (spD w2), .fz (spD w3), .fz (fr r), .fz (fr s), .fz (fr f), .fz (fr r), v10, v11, v12, v13, y14, y15, y16, y17, y18, y19]) (by unfold T03__6; exact ife_nil (ev_or_ff (ev_cmp (ev_vv rfl) (ev_vv rfl) t7) (ev_or_ff (ev_cmp (ev_call3 (ev_vv rfl) (ev_vv rfl) (ev_vv rfl) o12) e6a t8) (ev_cmp (ev_ixx (ev_call2 (ev_vv rfl) (ev_vv rfl) hcv) ev_neg1 ix_last) (ev_tup2 (ev_vv rfl) e6a) t9))))]
  rw [evSs_nx (ρ' := [.fz scr, .fz (.list (ds.map PyData.int)), .fz (.int (t : Int)), .fz (spD w1), .fz (spD w2), .fz (spD w3), .fz (fr r), .fz (fr s), .fz (fr f), .fz (fr r), v10, v11, v12, v13, .fz (.int ja), y15, y16, y17, y18, y19]) (by unfold T03__7; exact ev_asg (ev_call2 (ev_vv rfl) (ev_vv rfl) hra))]
  rw [evSs_nx (ρ' := [.fz scr, .fz (.list (ds.map PyData.int)), .fz (.int (t : Int)), .fz (spD w1), .fz (spD w2), .fz (spD w3), .fz (fr r), .fz (fr s), .fz (fr f), .fz (fr r), v10, v11, v12, v13, .fz (.int ja), y15, y16, y17, y18, y19]) (by unfold T03__8; exact ife_nil (ev_cmp (ev_call2 (ev_vv rfl) (ev_call2 (ev_vv rfl) (ev_vv rfl) c2) t10) (ev_call2 (ev_vv rfl) (ev_vv rfl) c1) t11))]
  have e9 : ev (Gk 1) (.lc [10] (.tup (.cons (.v 10) (.cons (.op .sub (.int 40) (.op .mul (.int 7) (.v 10))) .nil))) (.v 10) (.rng1 (.int 5)) .non) [.fz scr, .fz (.list (ds.map PyData.int)), .fz (.int (t : Int)), .fz (spD w1), .fz (spD w2), .fz (spD w3), .fz (fr r), .fz (fr s), .fz (fr f), .fz (fr r), v10, v11, v12, v13, .fz (.int ja), y15, y16, y17, y18, y19] = some (.list (mv.map prD)) := by
    rw [hmv, List.map_map]
    refine ev_tuple_rng (m := 5) (by decide) (by rw [xint]; rfl) fun x hx => ?_
    have m1 := mul_small (a := 7) (b := (x : Int)) (by decide) (by omega)
    unfold stepL
    simp only [Function.comp, prD]
    simp [-List.map_map, xcall, xv, xnon, xbl, xint, xstr, xg, xop, xcmp, xchain, xisN, xnotN, xand, xor, xnot, xite, xbi, xisi, xtup, xlst, xix, xsl, xrev, xget, xlvals, xoget, xolen, evs, evO, evC, evS, evSs, evR, bindP, unpD, freeze, wipeE, En.get, En.own, asB, asI, isNo, m1, sub_i]
  rw [evSs_nx (ρ' := [.fz scr, .fz (.list (ds.map PyData.int)), .fz (.int (t : Int)), .fz (spD w1), .fz (spD w2), .fz (spD w3), .fz (fr r), .fz (fr s), .fz (fr f), .fz (fr r), v10, v11, v12, v13, .fz (.int ja), .fz (rowsD mv), y16, y17, y18, y19]) (by unfold T03__9; exact ev_asg (ev_tup_of e9))]
  rw [evSs_nx (ρ' := [.fz scr, .fz (.list (ds.map PyData.int)), .fz (.int (t : Int)), .fz (spD w1), .fz (spD w2), .fz (spD w3), .fz (fr r), .fz (fr s), .fz (fr f), .fz (fr r), v10, v11, v12, v13, .fz (.int ja), .fz (rowsD mv), y16, y17, y18, y19]) (by unfold T03__10; exact ife_nil (ev_cmp (ev_call2 (ev_call2 (ev_vv rfl) (ev_vv rfl) rb1) (ev_call2 (ev_vv rfl) (ev_vv rfl) rb2) gb) (ev_vv rfl) t7))]
  have e11 : ev (Gk 1) (.lc [10] (.tup (.cons (.v 10) (.cons (.op .mod (.bi .int (.cons (.ix (.v 1) (.op .mod (.op .add (.v 2) (.op .mul (.int 7) (.v 10))) (.int 300))) .nil)) (.int 2)) .nil))) (.v 10) (.rng1 (.int 5)) .non) [.fz scr, .fz (.list (ds.map PyData.int)), .fz (.int (t : Int)), .fz (spD w1), .fz (spD w2), .fz (spD w3), .fz (fr r), .fz (fr s), .fz (fr f), .fz (fr r), v10, v11, v12, v13, .fz (.int ja), .fz (rowsD mv), y16, y17, y18, y19] = some (.list (prs.map prD)) := by
    rw [hprs, List.map_map]
    refine ev_tuple_rng (m := 5) (by decide) (by rw [xint]; rfl) fun x hx => ?_
    have m1 := mul_small (a := 7) (b := (x : Int)) (by decide) (by omega)
    have hux := hu x hx
    unfold stepL
    simp only [Function.comp, prD]
    simp [-List.map_map, xcall, xv, xnon, xbl, xint, xstr, xg, xop, xcmp, xchain, xisN, xnotN, xand, xor, xnot, xite, xbi, xisi, xtup, xlst, xix, xsl, xrev, xget, xlvals, xoget, xolen, evs, evO, evC, evS, evSs, evR, bindP, unpD, freeze, wipeE, En.get, En.own, asB, asI, isNo, m1, add_i, mod_i (show (0 : Int) < 300 by decide), hux, int_int, mod_i (show (0 : Int) < 2 by decide)]
  rw [evSs_nx (ρ' := [.fz scr, .fz (.list (ds.map PyData.int)), .fz (.int (t : Int)), .fz (spD w1), .fz (spD w2), .fz (spD w3), .fz (fr r), .fz (fr s), .fz (fr f), .fz (fr r), v10, v11, v12, v13, .fz (.int ja), .fz (rowsD mv), .fz (rowsD prs), y17, y18, y19]) (by unfold T03__11; exact ev_asg (ev_tup_of e11))]
  rw [evSs_nx (ρ' := [.fz scr, .fz (.list (ds.map PyData.int)), .fz (.int (t : Int)), .fz (spD w1), .fz (spD w2), .fz (spD w3), .fz (fr r), .fz (fr s), .fz (fr f), .fz (fr r), v10, v11, v12, v13, .fz (.int ja), .fz (rowsD mv), .fz (rowsD prs), y17, y18, y19]) (by unfold T03__12; exact ife_nil (ev_call2 (ev_call2 (ev_call2 (ev_vv rfl) (ev_vv rfl) rc1) (ev_call2 (ev_vv rfl) (ev_vv rfl) rc2) gc) (ev_vv rfl) t12))]
  rw [evSs_nx (ρ' := [.fz scr, .fz (.list (ds.map PyData.int)), .fz (.int (t : Int)), .fz (spD w1), .fz (spD w2), .fz (spD w3), .fz (fr r), .fz (fr s), .fz (fr f), .fz (fr r), v10, v11, v12, v13, .fz (.int ja), .fz (rowsD mv), .fz (rowsD prs), .fz (fr h), y18, y19]) (by unfold T03__13; simp [-List.map_map, xcall, xv, xnon, xbl, xint, xstr, xg, xop, xcmp, xchain, xisN, xnotN, xand, xor, xnot, xite, xbi, xisi, xtup, xlst, xix, xsl, xrev, xget, xlvals, xoget, xolen, evs, evO, evC, evS, evSs, evR, bindP, unpD, freeze, wipeE, En.get, En.own, asB, asI, isNo, ha1, int_int, mod_i (show (0 : Int) < 5 by decide), add_i, lh])]
  have e14 : ev (Gk 1) (.tup (.cons (.int 1) (.cons (.int 1) .nil))) [.fz scr, .fz (.list (ds.map PyData.int)), .fz (.int (t : Int)), .fz (spD w1), .fz (spD w2), .fz (spD w3), .fz (fr r), .fz (fr s), .fz (fr f), .fz (fr r), v10, v11, v12, v13, .fz (.int ja), .fz (rowsD mv), .fz (rowsD prs), .fz (fr h), y18, y19] = some (fr 1) := ev_tup2 ev_ii ev_ii
  rw [evSs_nx (ρ' := [.fz scr, .fz (.list (ds.map PyData.int)), .fz (.int (t : Int)), .fz (spD w1), .fz (spD w2), .fz (spD w3), .fz (fr r), .fz (fr s), .fz (fr f), .fz (fr r), v10, v11, v12, v13, .fz (.int ja), .fz (rowsD mv), .fz (rowsD prs), .fz (fr h), .fz (fr (1 - h)), y19]) (by unfold T03__14; exact ev_asg (ev_call2 e14 (ev_vv rfl) t13))]
  rw [evSs_nx (ρ' := [.fz scr, .fz (.list (ds.map PyData.int)), .fz (.int (t : Int)), .fz (spD w1), .fz (spD w2), .fz (spD w3), .fz (fr r), .fz (fr s), .fz (fr f), .fz (fr r), v10, .fz (spD m1), .fz (spD m2), v13, .fz (.int ja), .fz (rowsD mv), .fz (rowsD prs), .fz (fr h), .fz (fr (1 - h)), y19]) (by unfold T03__15; exact par_of (ev_call1 (ev_tup2 (ev_tup2 (ev_vv rfl) (ev_vv rfl)) (ev_tup2 (ev_vv rfl) (ev_vv rfl))) rm1) (ev_call1 (ev_tup2 (ev_tup2 (ev_vv rfl) (ev_vv rfl)) (ev_tup2 (ev_vv rfl) (ev_vv rfl))) rm2))]
  have e16 : ev (Gk 1) (.ite (.call "_law_is_above" (.cons (.v 6) (.cons (.v 7) .nil))) (.v 6) (.v 7)) [.fz scr, .fz (.list (ds.map PyData.int)), .fz (.int (t : Int)), .fz (spD w1), .fz (spD w2), .fz (spD w3), .fz (fr r), .fz (fr s), .fz (fr f), .fz (fr r), v10, .fz (spD m1), .fz (spD m2), v13, .fz (.int ja), .fz (rowsD mv), .fz (rowsD prs), .fz (fr h), .fz (fr (1 - h)), y19] = some (fr most) := by
    rw [← e6]
    exact ite_of (ev_call2 (ev_vv rfl) (ev_vv rfl) t14) (ev_vv rfl) (ev_vv rfl)
  rw [evSs_nx (ρ' := [.fz scr, .fz (.list (ds.map PyData.int)), .fz (.int (t : Int)), .fz (spD w1), .fz (spD w2), .fz (spD w3), .fz (fr r), .fz (fr s), .fz (fr f), .fz (fr r), v10, .fz (spD m1), .fz (spD m2), v13, .fz (.int ja), .fz (rowsD mv), .fz (rowsD prs), .fz (fr h), .fz (fr (1 - h)), .fz (fr most)]) (by unfold T03__16; exact ev_asg e16)]
  rw [evSs_nx (ρ' := [.fz scr, .fz (.list (ds.map PyData.int)), .fz (.int (t : Int)), .fz (spD w1), .fz (spD w2), .fz (spD w3), .fz (fr r), .fz (fr s), .fz (fr f), .fz (fr r), v10, .fz (spD m1), .fz (spD m2), v13, .fz (.int ja), .fz (rowsD mv), .fz (rowsD prs), .fz (fr h), .fz (fr (1 - h)), .fz (fr most)]) (by unfold T03__17; exact ife_nil (ev_call2 (ev_call2 (ev_vv rfl) (ev_vv rfl) gm) (ev_vv rfl) t15))]
  have e18 : ev (Gk 1) (.tup (.cons (.int 1) (.cons (.int 1) .nil))) [.fz scr, .fz (.list (ds.map PyData.int)), .fz (.int (t : Int)), .fz (spD w1), .fz (spD w2), .fz (spD w3), .fz (fr r), .fz (fr s), .fz (fr f), .fz (fr r), v10, .fz (spD m1), .fz (spD m2), v13, .fz (.int ja), .fz (rowsD mv), .fz (rowsD prs), .fz (fr h), .fz (fr (1 - h)), .fz (fr most)] = some (fr 1) := ev_tup2 ev_ii ev_ii
  rw [evSs_nx (ρ' := [.fz scr, .fz (.list (ds.map PyData.int)), .fz (.int (t : Int)), .fz (spD w1), .fz (spD w2), .fz (spD w3), .fz (fr r), .fz (fr s), .fz (fr f), .fz (fr r), v10, .fz (spD m1), .fz (spD m2), v13, .fz (.int ja), .fz (rowsD mv), .fz (rowsD prs), .fz (fr h), .fz (fr (1 - h)), .fz (fr most)]) (by unfold T03__18; exact ife_nil (ev_cmp (ev_call2 (ev_vv rfl) (ev_vv rfl) gm2) (ev_call2 e18 (ev_call2 (ev_vv rfl) (ev_call2 (ev_vv rfl) e18 t16) t17) t18) t19))]
  exact ⟨_, _, _, _, _, _, _, _, _, _, _, _, _, _, _, _, _, rfl⟩
end PL


set_option Elab.async false
set_option linter.all false
set_option maxRecDepth 100000
set_option exponentiation.threshold 20000
/-! R8: k03's law holds of the evaluator. -/
namespace PL
open PySem
theorem k03_law (ns : List Int) (hn : ns.length ≤ 63) : run (Gk 1) K03.f_law.ps.length K03.f_law.N.length K03.f_law.body [.list (ns.map PyData.int)] = some (.bool true) := by
  obtain ⟨ds, hd, hr⟩ := a_draws hn (n := 300) (by decide)
  have hr := hr 1 (by decide +kernel)
  have hr : ap (Gk 1) "_law_draws" [.list (ns.map PyData.int), .int 300] = some (.list (ds.map PyData.int)) := hr
  obtain ⟨ρ', h1, z2, z3, z4, z5, z6, z7, z8, z9, z10, z11, z12, z13, z14, z15, z16, z17, z18, z19, e⟩ := forL_ex (step := fun d ρ1 => (bindP (.v 2) d ρ1).bind fun ρ2 => evSs (Gk 1) T03__body ρ2)
    (P := fun _ ρ => ∃ z2 z3 z4 z5 z6 z7 z8 z9 z10 z11 z12 z13 z14 z15 z16 z17 z18 z19, ρ = [.fz (.list (ns.map PyData.int)), .fz (.list (ds.map PyData.int)), z2, z3, z4, z5, z6, z7, z8, z9, z10, z11, z12, z13, z14, z15, z16, z17, z18, z19]) ((List.range 6).map fun (j : Nat) => .int (j : Int)) 0 [.fz (.list (ns.map PyData.int)), .fz (.list (ds.map PyData.int)), .un, .un, .un, .un, .un, .un, .un, .un, .un, .un, .un, .un, .un, .un, .un, .un, .un, .un] ⟨_, _, _, _, _, _, _, _, _, _, _, _, _, _, _, _, _, _, rfl⟩ (fun j ρ d hd' _ ⟨z2, z3, z4, z5, z6, z7, z8, z9, z10, z11, z12, z13, z14, z15, z16, z17, z18, z19, e⟩ => by
    subst e
    obtain ⟨t, ht, e⟩ := List.mem_map.mp hd'
    subst e
    obtain ⟨u3, u4, u5, u6, u7, u8, u9, u10, u11, u12, u13, u14, u15, u16, u17, u18, u19, hu⟩ := k03_turn (.list (ns.map PyData.int)) ds hd t (List.mem_range.mp ht) z3 z4 z5 z6 z7 z8 z9 z10 z11 z12 z13 z14 z15 z16 z17 z18 z19
    exact ⟨_, hu, _, _, _, _, _, _, _, _, _, _, _, _, _, _, _, _, _, _, rfl⟩)
  refine run_of (ρ := [.fz (.list (ns.map PyData.int)), .un, .un, .un, .un, .un, .un, .un, .un, .un, .un, .un, .un, .un, .un, .un, .un, .un, .un, .un]) rfl rfl ?_
  show evSs (Gk 1) K03.b_law _ = _
  rw [T03__law]
  rw [evSs_nx (ρ' := [.fz (.list (ns.map PyData.int)), .fz (.list (ds.map PyData.int)), .un, .un, .un, .un, .un, .un, .un, .un, .un, .un, .un, .un, .un, .un, .un, .un, .un, .un]) (by exact ev_asg (ev_call2 (ev_vv rfl) (by rw [xint]) hr))]
  have it : evI (Gk 1) (.rng1 (.int 6)) [.fz (.list (ns.map PyData.int)), .fz (.list (ds.map PyData.int)), .un, .un, .un, .un, .un, .un, .un, .un, .un, .un, .un, .un, .un, .un, .un, .un, .un, .un] = some ((List.range 6).map fun (j : Nat) => .int (j : Int)) := ev_rng (by rw [xint]; rfl) (by decide)
  rw [evSs_nx (evS_for it h1)]
  refine evSs_rt ?_
  simp only [evS, xbl, Option.map_some]
theorem k03_math (ns : List Int) (hn : ns.length ≤ 63) : run ⟨fnsOf (cstOf K03.cns) [] (K03.dfs.drop 1), cstOf K03.cns, []⟩ K03.f_law.ps.length K03.f_law.N.length K03.f_law.body [.list (ns.map PyData.int)] = some (.bool true) := k03_law ns hn
end PL


set_option maxHeartbeats 0
theorem PySem.Challenge.cw_rowhidden_k03_main_greatest_ratios_go_al_holds : PySem.Challenge.rw_rowhidden_k03_main_greatest_ratios_go_al.Holds :=
  K03.holds fun ns h _ => PL.k03_math ns h
