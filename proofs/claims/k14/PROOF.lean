import PyProof.Rows.All
import Wide.All
import OpenK.AllK
import Wide.FinOn
import KE.KDictKeyed
import KE.KDictPairs
import KE.KDictCopyH
import HandS.ForMost
import HandS.ForExc
import HandS.Wide
import KE.SortKeyHeap
import KE.DataCmp
import HandS.TupAny
import HandS.TupMul
import HandS.Style
import HandS.IsInst
import KE.KTupSum
import HandS.Lambda
import HandS.HeadHook2
import HandS.Dict
import KE.KDictWalk
import HandS.Deep
import PyProof.ReprRoads
import HandS.ExcInit
import HandS.ExcField
import HandS.Defaults
import HandS.Codes
import HandS.MakeKwOnly
import HandS.DictComp
import HandS.Flow
import HandS.Zip
import HandS.Iter
import HandS.NoneIn
import KE.GoesEnumKw
import PyProof.Rows.CallKwBuiltin
import HandS.SortKw
import HandS.TryMany
import HandS.Head0
import HandS.Head1
import HandS.Head2
import HandS.HeadEnd
import HandS.Ends
import HandS.EndBits
import HandS.HeadHook4
import HandS.Words
import KE.KStateDown
import PyProof.ReprLen
import PyProof.P3Eq
import HandS.More
import HandS.WordsExc
import PySem.Challenge.RW_partingfees_k14_first_violation
set_option Elab.async false
set_option linter.all false
set_option autoImplicit false
set_option maxRecDepth 100000
set_option maxHeartbeats 1000000
namespace PV
open PySem
abbrev DE := NestedKey × Value × Value
def entA (w : World) (x : DE) : DictEntry := ⟨x.1.hash w, x.2.1, x.2.2⟩
def KAt (h : Heap) (k : NestedKey) (v : Value) : Prop := NestedIs h k v ∧ k.depth ≤ 8
structure DictA (w : World) (h : Heap) (d : Addr) (xs : List DE) (o : Obj) (es : Array DictEntry) (ep : Nat) : Prop where
  ho : h.get? d = some o
  hc : o.ExactDict
  hd : o.data = .dict es ep
  he : es.toList = xs.map (entA w)
  hk : ∀ x ∈ xs, KAt h x.1 x.2.1
  hn : (xs.map (·.1)).Nodup
def isK (k : NestedKey) (x : DE) : Bool := decide (x.1 = k)
def fiA (xs : List DE) (k : NestedKey) : Option Nat := xs.findIdx? (isK k)
theorem fiA_some {xs : List DE} (hn : (xs.map (·.1)).Nodup) {k : NestedKey} {j : Nat} {p : Value × Value} (h : xs[j]? = some (k, p)) : fiA xs k = some j := by
  have hj : j < xs.length := (List.getElem?_eq_some_iff.mp h).1
  rw [fiA, List.findIdx?_eq_some_iff_getElem]
  have hx : xs[j] = (k, p) := (List.getElem?_eq_some_iff.mp h).2
  refine ⟨hj, by simp [isK, hx], fun i hi => ?_⟩
  have hne : xs[i].1 ≠ xs[j].1 := fun z => by
    have h1 : (xs.map (·.1))[i]? = some xs[i].1 := by simp [Nat.lt_trans hi hj]
    have h2 : (xs.map (·.1))[j]? = some xs[j].1 := by simp [hj]
    rw [z] at h1
    have := (List.getElem?_inj (by simp; omega) hn).mp (h1.trans h2.symm)
    omega
  rw [hx] at hne
  simp [isK, hne]
theorem fiA_none {xs : List DE} {k : NestedKey} (h : ∀ (j : Nat) (p : Value × Value), xs[j]? ≠ some (k, p)) : fiA xs k = none := by
  rw [fiA, List.findIdx?_eq_none_iff]
  intro x hx
  obtain ⟨j, hj⟩ := List.mem_iff_getElem?.mp hx
  simp only [isK, decide_eq_false_iff_not]
  intro z
  subst z
  exact h j x.2 hj
theorem fiA_get {xs : List DE} {k : NestedKey} {i : Nat} (h : fiA xs k = some i) : ∃ p, xs[i]? = some (k, p) := by
  obtain ⟨hi, h1, _⟩ := List.findIdx?_eq_some_iff_getElem.mp h
  refine ⟨xs[i].2, ?_⟩
  have : xs[i].1 = k := by simpa [isK] using h1
  rw [← this]
  simp [hi]
theorem fiA_no {xs : List DE} {k : NestedKey} (h : fiA xs k = none) : k ∉ xs.map (·.1) := fun z => by
  obtain ⟨x, hx, e⟩ := List.mem_map.mp z
  have := List.findIdx?_eq_none_iff.mp h x hx
  simp [isK, e] at this
section
variable {prog : Program} {w : World} {A : Around} {E : Value → Shared → Prop} {s : Shared}
theorem key_eq {x y : NestedKey} {a b : Value} {Q : Bool → Shared → Prop} (hu : A.units + 8 < cLine) (hx : KAt s.heap x a) (hy : KAt s.heap y b) (h : Q (decide (x = y)) s) : wpAny (model prog w) A (eqBool a b) Q E s :=
  eqAt_key x y A s a b hx.1 hy.1 (by have := hx.2; omega) prog w E Q (by rw [← NestedKey.decide_eq]; exact h)
theorem key_hash {k : NestedKey} {v : Value} {Q : Int → Shared → Prop} (hu : A.units + 8 < cLine) (hk : KAt s.heap k v) (h : Q (k.hash w) { s with toks := s.toks + k.draws }) : wpAny (model prog w) A (pyHash v) Q E s :=
  pyHash_key k v A s Q hk.1 (by have := hk.2; omega) h
theorem key_quiet {k : NestedKey} {v : Value} {Q : Bool → Shared → Prop} (hk : KAt s.heap k v) (h : Q true s) : wpAny (model prog w) A (eqIsQuiet 8 v) Q E s :=
  quiet_key k v 8 s hk.1 hk.2 A E Q h
theorem tell_quiet {v : Value} {k : NestedKey} {vs : List Value} {Q : Bool → Shared → Prop} (hkey : KAt s.heap k v) (hst : ∀ u ∈ vs, ∃ k', KAt s.heap k' u) (h : Q false s) : wpAny (model prog w) A (tableMayTell v vs) Q E s := by
  unfold tableMayTell
  split
  · exact wpAny_pure h
  · refine wpAny_bind (key_quiet hkey ?_)
    rw [show (!true) = false from rfl]
    rw [if_neg Bool.false_ne_true]
    refine wpAny_bind ?_
    refine wpAny_forIn_list _ (fun todo acc t => t = s ∧ acc = (none, ()) ∧ ∀ u ∈ todo, ∃ k', KAt s.heap k' u) _ (fun u todo acc t z => ?_) (fun acc t z => ?_) _ _ ⟨rfl, rfl, hst⟩
    · obtain ⟨rfl, rfl, hr⟩ := z
      obtain ⟨k', hb⟩ := hr u List.mem_cons_self
      refine wpAny_bind (key_quiet hb ?_)
      rw [show (!true) = false from rfl, if_neg Bool.false_ne_true]
      exact wpAny_pure ⟨rfl, rfl, fun x hx => hr x (List.mem_cons_of_mem _ hx)⟩
    · obtain ⟨rfl, rfl, _⟩ := z
      exact wpAny_pure h
end
end PV
set_option Elab.async false
set_option linter.all false
set_option autoImplicit false
set_option maxRecDepth 100000
set_option maxHeartbeats 4000000
namespace PV
open PySem
section
variable {prog : Program} {w : World} {A : Around} {E : Value → Shared → Prop} {s : Shared}
abbrev atH (es : Array DictEntry) (c : Int) (i : Nat) : Bool := (es[i]?.map (·.hash)) == some c
theorem ent_at {es : Array DictEntry} {xs : List DE} (he : es.toList = xs.map (entA w)) (j : Nat) : es[j]? = (xs[j]?).map (entA w) := by
  rw [← Array.getElem?_toList, he, List.getElem?_map]
theorem ent_size {es : Array DictEntry} {xs : List DE} (he : es.toList = xs.map (entA w)) : es.size = xs.length := by
  rw [← Array.length_toList, he, List.length_map]
theorem two_ways {α : Type} {c : Prop} [Decidable c] {x y : Sem α} {Q : α → Shared → Prop} (h1 : wpAny (model prog w) A x Q E s) (h2 : wpAny (model prog w) A y Q E s) : wpAny (model prog w) A (if c then x else y) Q E s := by
  by_cases h : c
  · rw [if_pos h]; exact h1
  · rw [if_neg h]; exact h2
theorem find_any {d : Addr} {kv : Value} {o : Obj} {es : Array DictEntry} {ep : Nat} {xs : List DE} {k : NestedKey} {Q : Option Nat → Shared → Prop} (hu : A.units + 8 < cLine) (hkey : KAt s.heap k kv) (D : DictA w s.heap d xs o es ep)
    (h : Q (fiA xs k) s) : wpAny (model prog w) A (dictFind d kv (k.hash w)) Q E s := by
  obtain ⟨ho, hc, hd, he, hk, hn⟩ := D
  have hsz : es.size = xs.length := ent_size he
  have has : ∀ (j : Nat) (p : Value × Value), xs[j]? = some (k, p) → atH es (k.hash w) j = true := fun j p hj => by
    rw [atH, ent_at he j, hj]
    simp [entA]
  have hmem : ∀ e ∈ es, ∃ x ∈ xs, e = entA w x := fun e hin => by
    have z : e ∈ xs.map (entA w) := he ▸ Array.mem_toList_iff.mpr hin
    obtain ⟨x, hx, rfl⟩ := List.mem_map.mp z
    exact ⟨x, hx, rfl⟩
  have hst : ∀ v ∈ (placesWithHash es.size (fun i => es[i]?.map (·.hash)) (k.hash w)).filterMap (fun i => es[i]?.map (·.key)), ∃ k', KAt s.heap k' v := fun v hv => by
    obtain ⟨i, _, hi⟩ := List.mem_filterMap.mp hv
    cases hei : es[i]? with
    | none => rw [hei] at hi; cases hi
    | some e =>
      rw [hei] at hi
      cases hi
      obtain ⟨x, hx, rfl⟩ := hmem e (Array.mem_of_getElem? hei)
      exact ⟨x.1, hk x hx⟩
  have QN : (∀ (j : Nat) (p : Value × Value), xs[j]? ≠ some (k, p)) → Q none s := fun z => by rw [fiA_none z] at h; exact h
  have QS : ∀ (j : Nat) (p : Value × Value), xs[j]? = some (k, p) → Q (some j) s := fun j p z => by rw [fiA_some hn z] at h; exact h
  have endN : ∀ i, [] = (List.range' i (es.size - i)).filter (atH es (k.hash w)) → (∀ j p, j < i → xs[j]? ≠ some (k, p)) → ∀ (j : Nat) (p : Value × Value), xs[j]? ≠ some (k, p) := fun i hr hno j p hj => by
    rcases Nat.lt_or_ge j i with z | z
    · exact hno j p z hj
    · have hjl : j < es.size := by
        rw [hsz]
        exact (List.getElem?_eq_some_iff.mp hj).1
      have y := List.filter_eq_nil_iff.mp hr.symm j (List.mem_range'_1.mpr ⟨z, by omega⟩)
      exact y (has j p hj)
  have stepN : ∀ i x, (∀ j, i ≤ j → j < x → atH es (k.hash w) j = false) → (∀ j p, j < i → xs[j]? ≠ some (k, p)) → ∀ j p, j < x → xs[j]? ≠ some (k, p) := fun i x hskip hno j p hjx hj => by
    rcases Nat.lt_or_ge j i with z | z
    · exact hno j p z hj
    · have y := hskip j z hjx
      rw [has j p hj] at y
      cases y
  have nextN : ∀ x (k' : NestedKey) q, xs[x]? = some (k', q) → k' ≠ k → (∀ j p, j < x → xs[j]? ≠ some (k, p)) → ∀ j p, j < x + 1 → xs[j]? ≠ some (k, p) := fun x k' q hx hne hno j p hj hz => by
    rcases Nat.lt_or_ge j x with z | z
    · exact hno j p z hz
    · have : j = x := by omega
      subst this
      rw [hx] at hz
      cases hz
      exact hne rfl
  have unq : ∀ i j p q, xs[i]? = some (k, p) → xs[j]? = some (k, q) → i = j := fun i j p q h1 h2 => Option.some.inj ((fiA_some hn h1).symm.trans (fiA_some hn h2))
  have plain : wpAny (model prog w) A (dictWalkPlain d kv (k.hash w) es (placesWithHash es.size (fun i => es[i]?.map (·.hash)) (k.hash w))) Q E s := by
    refine wpAny_bind ?_
    refine wpAny_forIn_list _ (fun todo acc t => t = s ∧ acc = (none, ()) ∧ ∃ i, todo = (List.range' i (es.size - i)).filter (atH es (k.hash w)) ∧ i ≤ es.size ∧ ∀ j p, j < i → xs[j]? ≠ some (k, p)) _ (fun x todo acc t z => ?_) (fun acc t z => ?_) _ _
      ⟨rfl, rfl, 0, by rw [placesWithHash, List.range_eq_range', Nat.sub_zero], Nat.zero_le _, fun _ _ z => absurd z (Nat.not_lt_zero _)⟩
    · obtain ⟨rfl, rfl, i, hr, hi, hno⟩ := z
      obtain ⟨hix, hxn, hpx, hskip, hrest⟩ := filter_range'_cons _ _ _ _ _ hr.symm
      have hlt : x < es.size := by omega
      have hno' := stepN i x hskip hno
      obtain ⟨⟨k', kv', v'⟩, hkv⟩ : ∃ y, xs[x]? = some y := ⟨xs[x]'(by omega), List.getElem?_eq_getElem _⟩
      have hex : es[x]? = some ⟨k'.hash w, kv', v'⟩ := by rw [ent_at he x, hkv]; rfl
      have hrest' : todo = (List.range' (x + 1) (es.size - (x + 1))).filter (atH es (k.hash w)) := by rw [hrest]; congr 2; omega
      have hib : KAt t.heap k' kv' := hk _ (List.mem_of_getElem? hkv)
      have hgo : k' ≠ k → ∃ i, todo = (List.range' i (es.size - i)).filter (atH es (k.hash w)) ∧ i ≤ es.size ∧ ∀ j p, j < i → xs[j]? ≠ some (k, p) := fun hne => ⟨x + 1, hrest', hlt, nextN x k' _ hkv hne hno'⟩
      rw [hex]
      dsimp only
      by_cases hh : (k'.hash w == k.hash w) = true
      · rw [if_pos hh]
        refine wpAny_bind (wpAny_dictEpoch ho hd (wpAny_bind (key_eq hu hib hkey (wpAny_bind (wpAny_dictEpoch ho hd ?_)))))
        show wpAny _ _ (if (ep != ep) = true then _ else _) _ E _
        rw [if_neg (by simp)]
        by_cases hkk : k' = k
        · rw [decide_eq_true hkk]
          subst hkk
          exact wpAny_bind (wpAny_rule (wpAny_pure (wpAny_pure (QS x _ hkv))))
        · rw [decide_eq_false hkk]
          exact wpAny_bind (wpAny_rule (wpAny_pure ⟨rfl, rfl, hgo hkk⟩))
      · rw [if_neg hh]
        refine wpAny_pure ⟨rfl, rfl, hgo fun hkk => ?_⟩
        rw [hkk] at hh
        simp at hh
    · obtain ⟨rfl, rfl, i, hr, hi, hno⟩ := z
      exact wpAny_pure (QN (endN i hr hno))
  have hany : ∀ a, kv = .ref a → ¬ (es.any fun e => e.key == kv && e.hash != k.hash w) = true := fun a ha z => by
    rw [← Array.any_toList, List.any_eq_true] at z
    obtain ⟨e, hin, hc'⟩ := z
    obtain ⟨x, hx, rfl⟩ := hmem e (Array.mem_toList_iff.mp hin)
    rw [Bool.and_eq_true, beq_iff_eq, bne_iff_ne] at hc'
    have y := hk x hx
    have e1 : x.2.1 = kv := hc'.1
    rw [e1] at y
    exact hc'.2 (by rw [show (entA w x).hash = x.1.hash w from rfl, NestedIs.inj _ _ _ y.1 hkey.1])
  unfold dictFind
  try with_reducible refine wpAny_holding ?_
  refine wpAny_bind (wpAny_dictEntries ho hd ?_)
  dsimp only
  split
  case' h_1 =>
    rename_i x t
    by_cases hstrs : (es.all fun e => isExactStrKey e.key) = true
  case pos =>
    rw [if_pos hstrs]
    have hkx : k = .text x := by
      have := hkey.1
      cases this
      rfl
    unfold foundByValue
    cases hf : es.findIdx? (fun e => e.key.isStr x) with
    | none =>
      refine wpAny_pure (QN fun j p hj => ?_)
      obtain ⟨pk, pv⟩ := p
      have hj' : j < es.size := by rw [hsz]; exact (List.getElem?_eq_some_iff.mp hj).1
      have hej : es[j]? = some ⟨k.hash w, pk, pv⟩ := by rw [ent_at he j, hj]; rfl
      have z := Array.findIdx?_eq_none_iff.mp hf _ (Array.mem_of_getElem? hej)
      have st := Array.all_eq_true'.mp hstrs _ (Array.mem_of_getElem? hej)
      have ki := (hk _ (List.mem_of_getElem? hj)).1
      rw [hkx] at ki
      dsimp only at z st ki
      cases ki with
      | text _ t' => simp [Value.isStr] at z
    | some i =>
      obtain ⟨hlt, hi, _⟩ := Array.findIdx?_eq_some_iff_getElem.mp hf
      obtain ⟨⟨k', kv', v'⟩, hkv⟩ : ∃ y, xs[i]? = some y := ⟨xs[i]'(by omega), List.getElem?_eq_getElem _⟩
      have hex : es[i]? = some ⟨k'.hash w, kv', v'⟩ := by rw [ent_at he i, hkv]; rfl
      have hxe : es[i] = ⟨k'.hash w, kv', v'⟩ := (Array.getElem?_eq_some_iff.mp hex).2
      have hib : KAt s.heap k' kv' := hk _ (List.mem_of_getElem? hkv)
      rw [hxe] at hi
      have hkk : k' = k := by
        rw [hkx]
        have ki := hib.1
        cases kv' <;> first | cases hi | skip
        cases ki
        rename_i sx tx
        have e : sx = x := by simpa [Value.isStr] using hi
        rw [e]
      dsimp only
      rw [hex]
      dsimp only
      refine wpAny_bind (wpAny_dictEpoch ho hd (wpAny_bind (key_eq hu hib hkey (wpAny_bind (wpAny_dictEpoch ho hd ?_)))))
      show wpAny _ _ (if (ep != ep) = true then _ else _) _ E _
      rw [if_neg (by simp), decide_eq_true hkk]
      subst hkk
      exact wpAny_bind (wpAny_rule (wpAny_pure (QS i _ hkv)))
  all_goals try rw [if_neg hstrs]
  all_goals
    refine if hall : (List.all _ carriedByValue) = true then (by rw [if_pos hall]; exact plain) else ?_
    rw [if_neg hall]
  case' h_2 => split
  all_goals try (rw [if_neg (hany _ rfl)])
  all_goals refine two_ways (wpAny_bind (wpAny_pure ?_)) (wpAny_bind (tell_quiet hkey hst ?_))
  all_goals
    rw [if_neg (by simp)]
    refine wpAny_bind ?_
    refine wpAny_forIn_list _ (fun todo acc t => t = s ∧ ∃ i hit, acc = (none, hit) ∧ todo = (List.range' i (es.size - i)).filter (atH es (k.hash w)) ∧ i ≤ es.size ∧
        ((hit = none ∧ ∀ j p, j < i → xs[j]? ≠ some (k, p)) ∨ ∃ j p, hit = some j ∧ j < i ∧ xs[j]? = some (k, p))) _ (fun x todo acc t z => ?_) (fun acc t z => ?_) _ _
      ⟨rfl, 0, none, rfl, by rw [placesWithHash, List.range_eq_range', Nat.sub_zero], Nat.zero_le _, .inl ⟨rfl, fun _ _ z => absurd z (Nat.not_lt_zero _)⟩⟩
    · obtain ⟨rfl, i, hit, rfl, hr, hi, hH⟩ := z
      obtain ⟨hix, hxn, hpx, hskip, hrest⟩ := filter_range'_cons _ _ _ _ _ hr.symm
      have hlt : x < es.size := by omega
      obtain ⟨⟨k', kv', v'⟩, hkv⟩ : ∃ y, xs[x]? = some y := ⟨xs[x]'(by omega), List.getElem?_eq_getElem _⟩
      have hex : es[x]? = some ⟨k'.hash w, kv', v'⟩ := by rw [ent_at he x, hkv]; rfl
      have hrest' : todo = (List.range' (x + 1) (es.size - (x + 1))).filter (atH es (k.hash w)) := by rw [hrest]; congr 2; omega
      have hib : KAt t.heap k' kv' := hk _ (List.mem_of_getElem? hkv)
      have hH' : (hit = none ∧ ∀ j p, j < x → xs[j]? ≠ some (k, p)) ∨ ∃ j p, hit = some j ∧ j < x ∧ xs[j]? = some (k, p) := by
        rcases hH with ⟨h0, hno⟩ | ⟨j, p, h1, hji, hj⟩
        · exact .inl ⟨h0, stepN i x hskip hno⟩
        · exact .inr ⟨j, p, h1, by omega, hj⟩
      have hgo : k' ≠ k → ((hit = none ∧ ∀ j p, j < x + 1 → xs[j]? ≠ some (k, p)) ∨ ∃ j p, hit = some j ∧ j < x + 1 ∧ xs[j]? = some (k, p)) := fun hne => by
        rcases hH' with ⟨h0, hno⟩ | ⟨j, p, h1, hji, hj⟩
        · exact .inl ⟨h0, nextN x k' _ hkv hne hno⟩
        · exact .inr ⟨j, p, h1, by omega, hj⟩
      rw [hex]
      dsimp only
      by_cases hh : (k'.hash w == k.hash w) = true
      · rw [if_pos hh]
        refine wpAny_bind (wpAny_dictEpoch ho hd (wpAny_bind (key_eq hu hib hkey (wpAny_bind (wpAny_dictEpoch ho hd ?_)))))
        show wpAny _ _ (if (ep != ep) = true then _ else _) _ E _
        rw [if_neg (by simp)]
        by_cases hkk : k' = k
        · rw [decide_eq_true hkk]
          subst hkk
          rcases hH' with ⟨rfl, _⟩ | ⟨j, p, _, hjx, hj⟩
          · rw [if_pos rfl]
            simp only [Option.isSome_none, Bool.false_eq_true, if_false]
            refine wpAny_bind (wpAny_rule ?_)
            split
            · exact wpAny_pure (wpAny_pure (QS x _ hkv))
            · exact wpAny_pure ⟨rfl, x + 1, some x, rfl, hrest', hlt, .inr ⟨x, _, rfl, Nat.lt_succ_self x, hkv⟩⟩
          · exact absurd (unq j x _ _ hj hkv) (by omega)
        · rw [decide_eq_false hkk]
          rw [if_neg Bool.false_ne_true]
          refine wpAny_bind (wpAny_rule ?_)
          rw [if_neg (by simp)]
          exact wpAny_pure ⟨rfl, x + 1, hit, rfl, hrest', hlt, hgo hkk⟩
      · rw [if_neg hh]
        refine wpAny_pure ⟨rfl, x + 1, hit, rfl, hrest', hlt, hgo fun hkk => ?_⟩
        rw [hkk] at hh
        simp at hh
    · obtain ⟨rfl, i, hit, rfl, hr, hi, hH⟩ := z
      rcases hH with ⟨rfl, hno⟩ | ⟨j, p, rfl, _, hj⟩
      · exact wpAny_pure (QN (endN i hr hno))
      · exact wpAny_pure (QS j p hj)
end
end PV
set_option Elab.async false
set_option linter.all false
set_option autoImplicit false
set_option maxRecDepth 100000
set_option maxHeartbeats 4000000
namespace PV
open PySem
def DictX (w : World) (h : Heap) (d : Addr) (ep : Nat) (xs : List DE) : Prop := ∃ o es, DictA w h d xs o es ep
def epA (ep : Nat) (xs : List DE) (k : NestedKey) : Nat := match fiA xs k with
  | some _ => ep
  | none => ep + 1
def valA (xs : List DE) (k : NestedKey) : Option Value := (fiA xs k).bind fun i => (xs[i]?).map (·.2.2)
def stA (xs : List DE) (k : NestedKey) (kv v : Value) : List DE := match fiA xs k with
  | some i => xs.modify i fun x => (x.1, x.2.1, v)
  | none => xs ++ [(k, kv, v)]
def rmA (xs : List DE) (k : NestedKey) : List DE := match fiA xs k with
  | some i => xs.eraseIdx i
  | none => xs
theorem KAt.keep {h h' : Heap} {k : NestedKey} {v : Value} (x : KAt h k v) (st : ∀ b o vs n, h.get? b = some o → o.data = .seq vs n → h'.get? b = some o) : KAt h' k v := ⟨NestedIs.at st k v x.1, x.2⟩
theorem KAt.but {h h' : Heap} {k : NestedKey} {v : Value} {d : Addr} {o : Obj} {es : Array DictEntry} {ep : Nat} (x : KAt h k v) (ho : h.get? d = some o) (hd : o.data = .dict es ep) (hs : Heap.SameBut d h h') : KAt h' k v :=
  x.keep fun b ob vs n hb hc => (hs.2 b fun e => by
    subst e
    rw [ho] at hb
    cases hb
    rw [hd] at hc
    cases hc).trans hb
theorem DictX.ty {w : World} {s : Shared} {d : Addr} {ep : Nat} {xs : List DE} (x : DictX w s.heap d ep xs) : s.TypeIs (.ref d) "dict" := by
  obtain ⟨o, es, D⟩ := x
  exact ⟨o, D.ho, D.hc.1⟩
theorem DictX.raw {w : World} {h : Heap} {d : Addr} {ep : Nat} {xs : List DE} (x : DictX w h d ep xs) : ∃ es, h.DictRaw d es ep ∧ es.toList = xs.map (entA w) := by
  obtain ⟨o, es, D⟩ := x
  exact ⟨es, ⟨o, D.ho, D.hc, D.hd⟩, D.he⟩
theorem map_modify' {α β : Type} (f : α → β) (g : α → α) (g' : β → β) (hg : ∀ x, f (g x) = g' (f x)) : ∀ (l : List α) (i : Nat), (l.modify i g).map f = (l.map f).modify i g'
  | [], i => by simp
  | x :: l, 0 => by simp [hg]
  | x :: l, i + 1 => by simp [map_modify' f g g' hg l i]
section
variable {prog : Program} {w : World} {A : Around} {E : Value → Shared → Prop} {s : Shared} {d : Addr} {kv : Value} {k : NestedKey} {ep : Nat} {xs : List DE}
theorem dget_any {Q : Option Value → Shared → Prop} (hu : A.units + 8 < cLine) (hkey : KAt s.heap k kv) (D : DictX w s.heap d ep xs) (h : Q (valA xs k) { s with toks := s.toks + k.draws }) : wpAny (model prog w) A (dictGet d kv) Q E s := by
  obtain ⟨o, es, D⟩ := D
  unfold dictGet
  try with_reducible refine wpAny_holding ?_
  refine wpAny_bind (key_hash hu hkey (wpAny_bind (find_any (s := { s with toks := s.toks + k.draws }) hu hkey D ?_)))
  unfold valA at h
  cases hf : fiA xs k with
  | none =>
    rw [hf] at h
    exact wpAny_pure h
  | some i =>
    rw [hf] at h
    refine wpAny_bind (wpAny_dictEntries (s := { s with toks := s.toks + k.draws }) D.ho D.hd (wpAny_pure ?_))
    rw [ent_at D.he i]
    rw [show Option.map (·.val) (Option.map (entA w) xs[i]?) = Option.map (·.2.2) xs[i]? by cases xs[i]? <;> rfl]
    exact h
theorem dset_any {v : Value} {Q : Unit → Shared → Prop} (hu : A.units + 8 < cLine) (hkey : KAt s.heap k kv) (D : DictX w s.heap d ep xs) (hz : xs.length ≤ sizeLine) (h : ∀ h', DictX w h' d (epA ep xs k) (stA xs k kv v) → Heap.SameBut d s.heap h' → Q () { s with heap := h', toks := s.toks + k.draws }) :
    wpAny (model prog w) A (dictSet d kv v) Q E s := by
  obtain ⟨o, es, D⟩ := D
  unfold dictSet
  try with_reducible refine wpAny_holding ?_
  refine wpAny_bind (key_hash hu hkey ?_)
  unfold dictSetHashed
  try with_reducible refine wpAny_holding ?_
  refine wpAny_bind (find_any (s := { s with toks := s.toks + k.draws }) hu hkey D ?_)
  unfold stA epA at h
  cases hf : fiA xs k with
  | none =>
    rw [hf] at h
    have hn := fiA_no hf
    refine wpAny_bind (wpAny_rule (wpAny_updateDictKeys (hz := by rw [ent_size D.he]; exact hz) (s := { s with toks := s.toks + k.draws }) D.ho D.hd (h _ ⟨_, _, Heap.get?_update_self _ D.ho (Obj.isFreed_of_dict (Obj.data_mapDictKeys D.hd _)), D.hc.mapDictKeys _, Obj.data_mapDictKeys D.hd _, ?_, fun x hx => ?_, ?_⟩ (Heap.SameBut.update ..))))
    · simp [D.he, entA]
    · rcases List.mem_append.mp hx with z | z
      · exact (D.hk x z).but D.ho D.hd (Heap.SameBut.update ..)
      · rw [List.mem_singleton.mp z]
        exact hkey.but D.ho D.hd (Heap.SameBut.update ..)
    · rw [List.map_append, List.nodup_append]
      refine ⟨D.hn, by simp, fun a ha b hb => ?_⟩
      have e : b = k := by simpa using hb
      rw [e]
      exact fun z => hn (z ▸ ha)
  | some i =>
    rw [hf] at h
    have hk1 : (xs.modify i fun x => (x.1, x.2.1, v)).map (·.1) = xs.map (·.1) := by
      refine (map_modify' (fun x : DE => x.1) (fun x => (x.1, x.2.1, v)) id (fun _ => rfl) xs i).trans ?_
      simp
    refine wpAny_bind (wpAny_rule (wpAny_bind (wpAny_updateDict (s := { s with toks := s.toks + k.draws }) D.ho D.hd (wpAny_point (h _ ⟨_, _, Heap.get?_update_self _ D.ho (Obj.isFreed_of_dict (Obj.data_mapDict D.hd _)), D.hc.mapDict _, Obj.data_mapDict D.hd _, ?_, fun x hx => ?_, ?_⟩ (Heap.SameBut.update ..))))))
    · rw [Array.toList_modify, D.he]
      exact (map_modify' (entA w) (fun x => (x.1, x.2.1, v)) (fun e => { e with val := v }) (fun _ => rfl) xs i).symm
    · obtain ⟨j, hj⟩ := List.mem_iff_getElem?.mp hx
      rw [List.getElem?_modify] at hj
      cases hxj : xs[j]? with
      | none => rw [hxj] at hj; simp at hj
      | some y =>
        rw [hxj] at hj
        have hy := (D.hk y (List.mem_of_getElem? hxj)).but (h' := (s.heap.update d (Obj.mapDict fun es => es.modify i fun e => { e with val := v }))) D.ho D.hd (Heap.SameBut.update ..)
        have e : (if i = j then (y.1, y.2.1, v) else y) = x := Option.some.inj hj
        by_cases hij : i = j
        · rw [if_pos hij] at e
          subst e
          exact hy
        · rw [if_neg hij] at e
          subst e
          exact hy
    · rw [hk1]
      exact D.hn
theorem contains_any {Q : Bool → Shared → Prop} (hu : A.units + 1 + 8 < cLine) (hkey : KAt s.heap k kv) (hd : (d == sysModules) = false) (D : DictX w s.heap d ep xs) (h : Q (valA xs k).isSome { s with toks := s.toks + k.draws }) : wpAny (model prog w) A (contains (.ref d) kv) Q E s := by
  refine wpAny_contains_slot D.ty F.slot_dict_contains (call_meetsIn F.slot_dict_contains D.ty F.entry_dict_contains (F.args_dict_contains_2 _ _) (S := fun A' R t => A' = A ∧ t = s ∧ R (.ok (.ret (.bool (valA xs k).isSome))) { s with toks := s.toks + k.draws }) (fun A' R t hS => ?_) ⟨rfl, rfl, wpAny_truthy_bool h⟩)
  obtain ⟨rfl, rfl, hq⟩ := hS
  show wpAny _ _ (dictGet d kv >>= _) _ _ _
  refine wpAny_bind (dget_any (A := A'.in1) hu hkey D ?_)
  cases hf : valA xs k with
  | some p =>
    rw [hf] at hq
    exact wpAny_pure hq
  | none =>
    rw [hf] at hq
    show wpAny _ _ (Builtin.Dict.pendingKey? d kv >>= _) _ _ _
    exact wpAny_bind (wpAny_pendingKey_other hd (wpAny_pure hq))
theorem in_any {Q : Value → Shared → Prop} (hu : A.units + 1 + 8 < cLine) (hkey : KAt s.heap k kv) (hd : (d == sysModules) = false) (D : DictX w s.heap d ep xs) (h : Q (.bool (valA xs k).isSome) { s with toks := s.toks + k.draws }) : wpAny (model prog w) A (compareOp .In kv (.ref d)) Q E s := by
  show wpAny _ _ (contains (.ref d) kv >>= fun b => pure (.bool b)) Q E s
  exact wpAny_bind (contains_any hu hkey hd D (wpAny_pure h))
theorem notIn_any {Q : Value → Shared → Prop} (hu : A.units + 1 + 8 < cLine) (hkey : KAt s.heap k kv) (hd : (d == sysModules) = false) (D : DictX w s.heap d ep xs) (h : Q (.bool (!(valA xs k).isSome)) { s with toks := s.toks + k.draws }) : wpAny (model prog w) A (compareOp .NotIn kv (.ref d)) Q E s := by
  show wpAny _ _ (contains (.ref d) kv >>= fun b => pure (.bool (!b))) Q E s
  exact wpAny_bind (contains_any hu hkey hd D (wpAny_pure h))
theorem getItem_any {v : Value} {Q : Value → Shared → Prop} (hu : A.units + 1 + 8 < cLine) (hkey : KAt s.heap k kv) (D : DictX w s.heap d ep xs) (hv : valA xs k = some v) (h : Q v { s with toks := s.toks + k.draws }) : wpAny (model prog w) A (getItem (.ref d) kv) Q E s := by
  unfold getItem
  try with_reducible refine wpAny_holding ?_
  refine wpAny_bind (wpAny_sequenceKey D.ty (by decide) (wpAny_bind (wpAny_callSpecial?_slot (name := Str.ofString "__getitem__") D.ty slot_dict_getitem (wpAny_call_entry slot_dict_getitem D.ty entry_dict_getitem ?_ (args_dict_getitem _ _)))))
  show wpAny _ _ (dictGet d kv >>= _) _ _ _
  refine wpAny_bind (dget_any (A := A.in1) hu hkey D ?_)
  rw [hv]
  exact wpAny_pure ⟨v, rfl, wpAny_pure h⟩
theorem setItem_any {v : Value} {Q : Unit → Shared → Prop} (hu : A.units + 1 + 8 < cLine) (hkey : KAt s.heap k kv) (D : DictX w s.heap d ep xs) (hz : xs.length ≤ sizeLine) (h : ∀ h', DictX w h' d (epA ep xs k) (stA xs k kv v) → Heap.SameBut d s.heap h' → Q () { s with heap := h', toks := s.toks + k.draws }) :
    wpAny (model prog w) A (setItem (.ref d) kv v) Q E s := by
  unfold setItem
  try with_reducible refine wpAny_holding ?_
  refine wpAny_bind (wpAny_sequenceKey D.ty (by decide) (wpAny_bind (wpAny_callSpecial?_slot (name := Str.ofString "__setitem__") D.ty slot_dict_setitem (wpAny_call_entry slot_dict_setitem D.ty entry_dict_setitem ?_ (args_dict_setitem _ _ _)))))
  show wpAny _ _ (Builtin.Dict.notOrdered "__setitem__" _ >>= _) _ _ _
  refine wpAny_bind (wpAny_notOrdered_dict D.ty ?_)
  show wpAny _ _ (dictSet d kv v >>= _) _ _ _
  exact wpAny_bind (dset_any (A := A.in1) hu hkey D hz fun h' D' sb => wpAny_pure ⟨.none, rfl, wpAny_pure (h h' D' sb)⟩)
theorem meets_get1 (hd : (d == sysModules) = false) : MeetsIn prog w (Builtin.«dict.get» ⟨[.ref d, kv], []⟩) (fun A R t => A.units + 1 + 8 < cLine ∧ ∃ k ep xs, KAt t.heap k kv ∧ DictX w t.heap d ep xs ∧ R (.ok (.ret ((valA xs k).getD .none))) { t with toks := t.toks + k.draws }) :=
  .of_wp fun A R t ⟨hu, k, ep, xs, hkey, D, h⟩ => by
    show wpAny _ _ (dictGet d kv >>= _) _ _ _
    refine wpAny_bind (dget_any (A := A.in1) hu hkey D ?_)
    cases hf : valA xs k with
    | some v =>
      rw [hf] at h
      exact wpAny_pure ⟨v, rfl, h⟩
    | none =>
      rw [hf] at h
      show wpAny _ _ (Builtin.Dict.missed d kv >>= _) _ _ _
      exact wpAny_bind (wpAny_missed_other hd (wpAny_pure ⟨.none, rfl, h⟩))
theorem meets_get2 (hd : (d == sysModules) = false) (y : Value) : MeetsIn prog w (Builtin.«dict.get» ⟨[.ref d, kv, y], []⟩) (fun A R t => A.units + 1 + 8 < cLine ∧ ∃ k ep xs, KAt t.heap k kv ∧ DictX w t.heap d ep xs ∧ R (.ok (.ret ((valA xs k).getD y))) { t with toks := t.toks + k.draws }) :=
  .of_wp fun A R t ⟨hu, k, ep, xs, hkey, D, h⟩ => by
    show wpAny _ _ (dictGet d kv >>= _) _ _ _
    refine wpAny_bind (dget_any (A := A.in1) hu hkey D ?_)
    cases hf : valA xs k with
    | some v =>
      rw [hf] at h
      exact wpAny_pure ⟨v, rfl, h⟩
    | none =>
      rw [hf] at h
      show wpAny _ _ (Builtin.Dict.missed d kv >>= _) _ _ _
      exact wpAny_bind (wpAny_missed_other hd (wpAny_pure ⟨y, rfl, h⟩))
end
end PV
set_option Elab.async false
set_option linter.all false
set_option autoImplicit false
set_option maxRecDepth 100000
set_option maxHeartbeats 4000000
namespace PV
open PySem
def foldA : Nat × List DE → List DE → Nat × List DE
  | x, [] => x
  | x, p :: r => foldA (epA x.1 x.2 p.1, stA x.2 p.1 p.2.1 p.2.2) r
theorem foldA_app (p : DE) : ∀ (l : List DE) (x : Nat × List DE), foldA x (l ++ [p]) = (epA (foldA x l).1 (foldA x l).2 p.1, stA (foldA x l).2 p.1 p.2.1 p.2.2)
  | [], x => rfl
  | q :: l, x => by
    rw [List.cons_append]
    exact foldA_app p l _
theorem stA_mem {xs : List DE} {k : NestedKey} {kv v : Value} {x : DE} (h : x ∈ stA xs k kv v) : (∃ y ∈ xs, x.1 = y.1 ∧ x.2.1 = y.2.1) ∨ (x.1 = k ∧ x.2.1 = kv) := by
  unfold stA at h
  split at h
  · rename_i i _
    obtain ⟨j, hj⟩ := List.mem_iff_getElem?.mp h
    rw [List.getElem?_modify] at hj
    cases hx : xs[j]? with
    | none => rw [hx] at hj; cases hj
    | some y =>
      rw [hx] at hj
      have e : (if i = j then (y.1, y.2.1, v) else y) = x := Option.some.inj hj
      refine .inl ⟨y, List.mem_of_getElem? hx, ?_⟩
      by_cases hij : i = j
      · rw [if_pos hij] at e
        subst e
        exact ⟨rfl, rfl⟩
      · rw [if_neg hij] at e
        subst e
        exact ⟨rfl, rfl⟩
  · rcases List.mem_append.mp h with z | z
    · exact .inl ⟨x, z, rfl, rfl⟩
    · rw [List.mem_singleton.mp z]
      exact .inr ⟨rfl, rfl⟩
theorem foldA_keys {P : NestedKey → Value → Prop} : ∀ (l : List DE) (x : Nat × List DE), (∀ y ∈ x.2, P y.1 y.2.1) → (∀ y ∈ l, P y.1 y.2.1) → ∀ y ∈ (foldA x l).2, P y.1 y.2.1
  | [], x, h, _, y, hy => h y hy
  | q :: l, x, h, hl, y, hy => foldA_keys l _ (fun z hz => by
      rcases stA_mem hz with ⟨u, hu, e1, e2⟩ | ⟨e1, e2⟩
      · rw [e1, e2]
        exact h u hu
      · rw [e1, e2]
        exact hl q List.mem_cons_self) (fun z hz => hl z (List.mem_cons_of_mem _ hz)) y hy
theorem stA_len' (xs : List DE) (k : NestedKey) (u v : Value) : (stA xs k u v).length ≤ xs.length + 1 := by
  unfold stA
  split <;> simp
theorem foldA_len : ∀ (l : List DE) (x : Nat × List DE), (foldA x l).2.length ≤ x.2.length + l.length
  | [], x => by simp [foldA]
  | q :: l, x => by
    have h1 := foldA_len l (epA x.1 x.2 q.1, stA x.2 q.1 q.2.1 q.2.2)
    have h2 := stA_len' x.2 q.1 q.2.1 q.2.2
    simp only [List.length_cons] at h1 ⊢
    show (foldA _ l).2.length ≤ _
    omega
mutual
def hsh : NestedKey → Option Int
  | .none => some (reduceHash 0xFCA86420)
  | .num i => some (hashInt i)
  | .text _ => none
  | .tup ks => (hshs ks).map fun l => reduceHash (Builtin.Tuple.tupleHashOf l)
def hshs : List NestedKey → Option (List Int)
  | [] => some []
  | k :: ks => match hsh k, hshs ks with
    | some a, some b => some (a :: b)
    | _, _ => none
end
mutual
theorem hsh_ok (w : World) : ∀ (k : NestedKey) (i : Int), hsh k = some i → k.hash w = i
  | .none, i, h => by cases h; rfl
  | .num j, i, h => by cases h; rfl
  | .text _, i, h => by cases h
  | .tup ks, i, h => by
    obtain ⟨l, h1, h2⟩ := Option.map_eq_some_iff.mp h
    subst h2
    show reduceHash (Builtin.Tuple.tupleHashOf (NestedKey.hashes w ks)) = _
    rw [hshs_ok w ks l h1]
theorem hshs_ok (w : World) : ∀ (ks : List NestedKey) (l : List Int), hshs ks = some l → NestedKey.hashes w ks = l
  | [], l, h => by cases h; rfl
  | k :: ks, l, h => by
    simp only [hshs] at h
    split at h
    · rename_i a b h1 h2
      cases h
      show k.hash w :: NestedKey.hashes w ks = _
      rw [hsh_ok w k a h1, hshs_ok w ks b h2]
    · cases h
end
section
variable {prog : Program} {w : World} {A : Around} {E : Value → Shared → Prop} {s : Shared}
theorem apart_of {xs : List DE} {o : Obj} {es : Array DictEntry} {ep : Nat} {d : Addr} {l : List Int} (D : DictA w s.heap d xs o es ep) (h : hshs (xs.map (·.1)) = some l) (nd : l.Nodup) : ∀ e ∈ es.toList, KeyApart s es e := fun e he => by
  have hl : es.toList.map (·.hash) = l := by
    rw [D.he, List.map_map, ← hshs_ok w _ l h]
    have : ∀ ys : List DE, ys.map ((·.hash) ∘ entA w) = NestedKey.hashes w (ys.map (·.1)) := fun ys => by
      induction ys with
      | nil => rfl
      | cons y ys ih =>
        rw [List.map_cons, List.map_cons]
        show _ = y.1.hash w :: NestedKey.hashes w (ys.map (·.1))
        rw [← ih]
        rfl
    exact this xs
  have one : (es.filter (·.hash == e.hash)).size ≤ 1 := by
    have z := filter_le_one (fun e : DictEntry => e.hash) e.hash es.toList (by rw [hl]; exact nd)
    rw [← Array.length_toList, Array.toList_filter]
    exact z
  have he' : e ∈ xs.map (entA w) := D.he ▸ he
  obtain ⟨x, hx, rfl⟩ := List.mem_map.mp he'
  have kk := (D.hk x hx).1
  cases hv : x.2.1 with
  | ref a =>
    refine .inr ⟨a, hv, ?_, one⟩
    rw [hv] at kk
    generalize x.1 = nk at kk
    cases kk with
    | tup h1 h2 _ _ => exact ⟨_, h1, h2⟩
  | _ => exact .inl (by show carriedByValue x.2.1 = true; rw [hv]; rfl)
theorem fill_copy {nm : String} {d o : Addr} {ep : Nat} {xs : List DE} {l : List Int} {R : Result → Shared → Prop} (res : Value) (hdo : d ≠ o) (hoS : (o == sysModules) = false) (Dd : DictX w s.heap d 0 []) (Do : DictX w s.heap o ep xs) (hz : xs.length ≤ sizeLine) (hh : hshs (xs.map (·.1)) = some l) (nd : l.Nodup)
    (hf : xs = [] ∨ 8 < xs.length ∨ ∃ x ∈ xs, (keyPart x.2.1).isSome = false)
    (hR : ∀ h', DictX w h' d (if xs.isEmpty then 0 else 1) xs → Heap.SameBut d s.heap h' → R (.ok (.ret res)) { s with heap := h' }) :
    wpAny (model prog w) A.in1 (Builtin.Dict.updateFrom nm d (.ref o) [] res)
      (fun fin s' => match fin with | .done f => R (.ok f) s' | .again c' => c'.quiet = true ∧ codeAny (model prog w) A c' R s') (fun e s' => R (.error e) s') s := by
  obtain ⟨od, esd, D1⟩ := Dd
  obtain ⟨oo, eso, D2⟩ := id Do
  have e1 : esd.toList = [] := D1.he
  have sz : eso.size = xs.length := ent_size D2.he
  have mg : ∀ {Q : Unit → Shared → Prop}, (∀ h', DictX w h' d (if xs.isEmpty then 0 else 1) xs → Heap.SameBut d s.heap h' → Q () { s with heap := h' }) → wpAny (model prog w) A.in1 (Builtin.Dict.mergeDict nm d o) Q (fun e s' => R (.error e) s') s := fun {Q} hq => by
    unfold Builtin.Dict.mergeDict Builtin.Dict.showsAll
    rw [if_neg (by rw [beq_iff_eq]; exact hdo), if_neg (by rw [hoS]; exact Bool.false_ne_true)]
    refine wpAny_bind (wpAny_pure (wpAny_bind (wpAny_dictEntries D2.ho D2.hd ?_)))
    rcases hf with rfl | hf
    · have e2 : eso.toList = [] := D2.he
      have e3 : eso = #[] := by simpa using e2
      subst e3
      dsimp only
      rw [show (!(decide ((#[] : Array DictEntry).size ≤ 8) && (#[] : Array DictEntry).all fun e => (keyPart e.key).isSome)) = false by simp, if_neg Bool.false_ne_true]
      refine wpAny_bind (wpAny_dictEpoch D2.ho D2.hd (wpAny_bind (wpAny_dictEntries D2.ho D2.hd (wpAny_bind ?_))))
      rw [Std.Legacy.Range.forIn_eq_forIn_range']
      exact wpAny_pure (wpAny_pure (hq s.heap ⟨od, esd, D1⟩ (Heap.SameBut.refl _ _)))
    · have few : (decide (eso.size ≤ 8) && eso.all fun e => (keyPart e.key).isSome) = false := by
        rcases hf with z | ⟨x, hx, z⟩
        · rw [sz, decide_eq_false (by omega), Bool.false_and]
        · rw [Bool.and_eq_false_iff]
          right
          rw [← Array.all_toList, D2.he, List.all_eq_false]
          exact ⟨entA w x, List.mem_map.mpr ⟨x, hx, rfl⟩, by show ¬ (keyPart x.2.1).isSome = true; rw [z]; exact Bool.false_ne_true⟩
      have ne : xs ≠ [] := fun z => by
        subst z
        rcases hf with z | ⟨x, hx, _⟩
        · exact absurd z (by simp)
        · cases hx
      have ne' : xs.isEmpty = false := by cases xs with | nil => exact absurd rfl ne | cons _ _ => rfl
      have nes : eso.isEmpty = false := by
        rw [Array.isEmpty_eq_false_iff]
        intro z
        rw [z] at sz
        exact ne (List.length_eq_zero_iff.mp sz.symm)
      have nd0 : esd.isEmpty = true := by
        have : esd = #[] := by simpa using e1
        rw [this]
        rfl
      dsimp only
      rw [few, show (!false) = true from rfl, if_pos rfl]
      refine wpAny_bind (wpAny_dictEntries D1.ho D1.hd ?_)
      rw [nd0, if_pos rfl]
      refine wpAny_bind (wpAny_entriesForEmpty_raw D2.ho D2.hd (apart_of D2 hh nd) ?_)
      rw [nes, show (!false) = true from rfl, if_pos rfl]
      refine wpAny_bind (wpAny_updateDictKeysTo (s := s) D1.ho D1.hd (wpAny_pure (hq _ ⟨od.mapDictKeys fun _ => eso, eso, ?_⟩ (Heap.SameBut.update ..))) (by rw [sz]; omega))
      rw [ne']
      exact ⟨Heap.get?_update_self _ D1.ho (Obj.isFreed_of_dict (Obj.data_mapDictKeys D1.hd _)), D1.hc.mapDictKeys _, Obj.data_mapDictKeys D1.hd _, D2.he, fun x hx => (D2.hk x hx).but D1.ho D1.hd (Heap.SameBut.update ..), D2.hn⟩
  unfold Builtin.Dict.updateFrom Builtin.Dict.merge Builtin.Dict.readDirectly
  refine wpAny_bind (wpAny_typeOf Do.ty ?_)
  rw [if_neg (by decide)]
  refine wpAny_bind (wpAny_bind (wpAny_bind (wpAny_isInstance Do.ty isSubtype_dict_dict ?_)))
  rw [show (!true) = false from rfl, if_neg Bool.false_ne_true]
  refine wpAny_bind (wpAny_specialOf Do.ty F.slot_dict_iter.lookup (wpAny_pure ?_))
  rw [if_pos (beq_self_eq_true _)]
  refine wpAny_bind (wpAny_pure (mg fun h' D' sb => ?_))
  exact wpAny_bind (wpAny_pure (wpAny_pure (hR h' D' sb)))
theorem fill_pairs {nm T : String} {a d : Addr} {fp wr : List Addr} {n : Nat} {Rel : Nat → Value → Value → Prop} {OK : Heap → Prop} {R : Result → Shared → Prop} {ps : List DE} {x0 : Nat × List DE} (P : PairArg prog w T a fp wr n Rel OK) (res : Value) (hh : A.handled = none) (hu : A.units + 1 + 8 < cLine) (ok : OK s.heap) (hdf : d ∉ fp) (hw : wr = [])
    (hl : ps.length = n) (hrel : ∀ i k v, Rel i k v → ∃ nk, ps[i]? = some (nk, k, v)) (hk : ∀ p ∈ ps, KAt s.heap p.1 p.2.1) (D : DictX w s.heap d x0.1 x0.2) (hz : x0.2.length + n ≤ sizeLine)
    (hR : ∀ h' tk, DictX w h' d (foldA x0 ps).1 (foldA x0 ps).2 → (∀ b o, b ≠ d → s.heap.get? b = some o → h'.get? b = some o) → R (.ok (.ret res)) { s with heap := h', toks := tk }) :
    wpAny (model prog w) A.in1 (Builtin.Dict.updateFrom nm d (.ref a) [] res)
      (fun fin s' => match fin with | .done f => R (.ok f) s' | .again c' => c'.quiet = true ∧ codeAny (model prog w) A c' R s') (fun e s' => R (.error e) s') s := by
  subst hw
  obtain ⟨o0, es0, D0⟩ := id D
  have notseq : ∀ b o vs m, s.heap.get? b = some o → o.data = .seq vs m → b ≠ d := fun b o vs m e1 e2 z => by
    subst z
    rw [D0.ho] at e1
    cases e1
    rw [D0.hd] at e2
    cases e2
  let Tab : Nat → Heap → Prop := fun i h => DictX w h d (foldA x0 (ps.take i)).1 (foldA x0 (ps.take i)).2 ∧ ∀ b o, b ≠ d → s.heap.get? b = some o → h.get? b = some o
  have kat : ∀ {h : Heap}, (∀ b o, b ≠ d → s.heap.get? b = some o → h.get? b = some o) → ∀ {k : NestedKey} {v : Value}, KAt s.heap k v → KAt h k v := fun {h} hb {k v} z => z.keep fun b o vs m e1 e2 => hb b o (notseq b o vs m e1 e2) e1
  have key0 : ∀ i, ∀ y ∈ (foldA x0 (ps.take i)).2, KAt s.heap y.1 y.2.1 := fun i => foldA_keys (P := fun k v => KAt s.heap k v) (ps.take i) x0 D0.hk fun y hy => hk y (List.mem_of_mem_take hy)
  refine updateFrom_arg (Tab := Tab) P res hh ok hdf ⟨by rw [List.take_zero]; exact D, fun _ _ _ e => e⟩ (fun i h ⟨⟨o, es, z⟩, _⟩ => Heap.lt_size z.ho) (fun i h h' wr' hd' hwr ⟨⟨o, es, z⟩, kp⟩ st => ?_) (fun i k v s1 Q E' hi hr ⟨DD, kp⟩ _ hq => ?_) fun h' tk ⟨DD, kp⟩ _ => ?_
  · have kp' : ∀ b o, b ≠ d → s.heap.get? b = some o → h'.get? b = some o := fun b o hb e => st b o (fun m => by
      rcases hwr b m with q | q
      · cases q
      · rw [q] at e
        cases e) (kp b o hb e)
    exact ⟨⟨o, es, st d o hd' z.ho, z.hc, z.hd, z.he, fun y hy => kat kp' (key0 i y hy), z.hn⟩, kp'⟩
  · obtain ⟨nk, hp⟩ := hrel i k v hr
    have hkey : KAt s1.heap nk k := kat kp (hk _ (List.mem_of_getElem? hp))
    have tk1 : ps.take (i + 1) = ps.take i ++ [(nk, k, v)] := by rw [List.take_add_one, hp]; rfl
    have hlen : (foldA x0 (ps.take i)).2.length ≤ sizeLine := by
      have h1 := foldA_len (ps.take i) x0
      rw [List.length_take] at h1
      omega
    refine dset_any (by show A.units + 1 + 8 < cLine; exact hu) hkey DD hlen fun h' D' sb => hq h' _ ⟨?_, fun b o hb e => (sb.2 b hb).trans (kp b o hb e)⟩ sb
    rw [tk1, foldA_app]
    exact D'
  · rw [← hl, List.take_length] at DD
    exact hR h' tk DD kp
theorem dict_call {x : Value} {Q : Value → Shared → Prop}
    (h : wpAny (model prog w) A.in1.in1 (Builtin.Dict.updateFrom "dict.__init__" s.heap.objs.size x [] .none)
        (fun fin s' => match fin with | .done f => wants (fun r t => r = .none ∧ Q (.ref s.heap.objs.size) t) E (.ok f) s' | .again c' => c'.quiet = true ∧ codeAny (model prog w) A.in1 c' (wants (fun r t => r = .none ∧ Q (.ref s.heap.objs.size) t) E) s')
        (fun e s' => wants (fun r t => r = .none ∧ Q (.ref s.heap.objs.size) t) E (.error e) s') { s with heap := s.heap.push { cls := .type "dict", data := .dict #[] } }) :
    wpAny (model prog w) A (call (.type "dict") [x]) Q E s := by
  have ty : Shared.TypeIs { s with heap := s.heap.push { cls := .type "dict", data := .dict #[] } } (.ref s.heap.objs.size) "dict" := ⟨_, Heap.get?_push_size _ rfl, rfl⟩
  refine callType_codes (Q₁ := fun o t => o = .ref s.heap.objs.size ∧ t = { s with heap := s.heap.push { cls := .type "dict", data := .dict #[] } }) F.kt_called_dict (F.kt_typeCall_dict_1 _) F.entry_dict_init (kt_code_dict_new _ ⟨rfl, rfl⟩) (fun o t z => ?_)
  obtain ⟨rfl, rfl⟩ := z
  refine ⟨ty, F.args_dict_init_2 _ _, ?_⟩
  unfold Builtin.«dict.__init__» Builtin.Dict.selfAndRest
  refine wpAny_bind (wpAny_bind (wpAny_notOrdered_dict ty ?_))
  exact wpAny_pure h
end
end PV
set_option Elab.async false
set_option linter.all false
set_option autoImplicit false
set_option maxRecDepth 100000
namespace PV
open PySem
inductive D where
  | non | bl (b : Bool) | int (i : Int) | str (s : Str) | tup (xs : List D) | ref (i : Nat) | fn (x : Str)
inductive MO where
  | lst (w : Bool) (xs : List D) | dct (ep : Nat) (kvs : List (D × D)) | ins (c : Str) (fs : List (Str × D))
mutual
def D.imm : D → Bool
  | .tup xs => D.immL xs
  | .ref _ => false
  | .non => true
  | .bl _ => true
  | .int _ => true
  | .str _ => true
  | .fn _ => false
def D.immL : List D → Bool
  | [] => true
  | x :: r => x.imm && D.immL r
end
mutual
def kD : D → NestedKey
  | .non => .none
  | .bl b => .num (if b then 1 else 0)
  | .int i => .num i
  | .str x => .text x
  | .tup xs => .tup (kDL xs)
  | .ref _ => .none
  | .fn _ => .none
def kDL : List D → List NestedKey
  | [] => []
  | x :: r => kD x :: kDL r
def kI : D → Bool
  | .non => true
  | .bl _ => true
  | .int _ => true
  | .str _ => true
  | .tup xs => kIL xs
  | .ref _ => false
  | .fn _ => false
def kIL : List D → Bool
  | [] => true
  | x :: r => kI x && kIL r
end
def kOk (d : D) : Bool := kI d && decide ((kD d).depth ≤ 8)
abbrev KV := List (D × D)
def fiK (kvs : KV) (k : D) : Option Nat := kvs.findIdx? fun p => NestedKey.beq (kD p.1) (kD k)
def getK (kvs : KV) (k : D) : Option D := (fiK kvs k).bind fun i => (kvs[i]?).map (·.2)
def putK (kvs : KV) (k v : D) : KV := match fiK kvs k with
  | some i => kvs.modify i fun p => (p.1, v)
  | none => kvs ++ [(k, v)]
def epK (ep : Nat) (kvs : KV) (k : D) : Nat := match fiK kvs k with
  | some _ => ep
  | none => ep + 1
def remK (kvs : KV) (k : D) : KV := match fiK kvs k with
  | some i => kvs.eraseIdx i
  | none => kvs
def foldK : Nat × KV → KV → Nat × KV
  | x, [] => x
  | x, p :: r => foldK (epK x.1 x.2 p.1, putK x.2 p.1 p.2) r
def pairsD : List D → Option KV
  | [] => some []
  | .tup [k, v] :: r => if kOk k then (pairsD r).map ((k, v) :: ·) else none
  | _ => none
def isTp : D → Bool
  | .tup _ => true
  | _ => false
def copyK (kvs : KV) : Option (Nat × KV) := if kvs.isEmpty then some (0, []) else if decide (8 < kvs.length) || kvs.any (fun p => isTp p.1) then (match hshs (kvs.map fun p => kD p.1) with
  | some l => if decide l.Nodup then some (1, kvs) else none
  | none => none) else none
def putFd (f : Str) (v : D) : List (Str × D) → List (Str × D)
  | [] => [(f, v)]
  | (g, x) :: r => if g = f then (g, v) :: r else (g, x) :: putFd f v r
structure HS (b : List MO) where
  M : List MO
  lo : Nat
  ok : b.take lo <+: M
variable {b : List MO}
theorem pre_set {M : List MO} {lo : Nat} (h : b.take lo <+: M) (i : Nat) (o : MO) : b.take (min lo i) <+: M.set i o := by
  have h1 : b.take (min lo i) <+: M := (by
    have e : b.take (min lo i) = (b.take lo).take i := by rw [List.take_take, Nat.min_comm]
    rw [e]
    exact (List.take_prefix _ _).trans h)
  have h2 : (b.take (min lo i)).length ≤ i := by
    rw [List.length_take]; omega
  have e := List.prefix_iff_eq_take.mp h1
  rw [List.prefix_iff_eq_take]
  rw [List.take_set_of_le h2]
  exact e
def HS.alloc (s : HS b) (o : MO) : HS b := ⟨s.M ++ [o], s.lo, s.ok.trans (List.prefix_append _ _)⟩
def HS.set (s : HS b) (i : Nat) (o : MO) : HS b := ⟨s.M.set i o, min s.lo i, pre_set s.ok i o⟩
def HS.start (M : List MO) : HS M := ⟨M, M.length, by rw [List.take_length]; exact List.prefix_rfl⟩
inductive Out (b : List MO) (α : Type) where
  | ok (a : α) (s : HS b)
  | ex (c : Nat) (fs : List (Str × D)) (s : HS b)
abbrev R (b : List MO) (α : Type) := Option (Out b α)
def ret {α : Type} (a : α) (s : HS b) : R b α := some (.ok a s)
def bnd {α β : Type} (x : R b α) (f : α → HS b → R b β) : R b β := match x with
  | none => none
  | some (.ok a s) => f a s
  | some (.ex c fs s) => some (.ex c fs s)
def noX {α : Type} (x : R b α) : R b α := match x with
  | some (.ex _ _ _) => none
  | y => y
abbrev Env := List (Option D)
mutual
def deepW (f : Nat → Option PyData) : D → Option PyData
  | .non => some .none
  | .bl b => some (.bool b)
  | .int i => some (.int i)
  | .str x => some (.str x)
  | .tup xs => (deepWL f xs).map .tuple
  | .ref i => f i
  | .fn _ => none
def deepWL (f : Nat → Option PyData) : List D → Option (List PyData)
  | [] => some []
  | x :: r => match deepW f x, deepWL f r with
    | some a, some b => some (a :: b)
    | _, _ => none
end
def deepR (M : List MO) : Nat → Nat → Option PyData
  | 0, _ => none
  | n + 1, i => match M[i]? with
    | some (.lst _ xs) => (deepWL (deepR M n) xs).map .list
    | _ => none
def deep (M : List MO) (d : D) : Option PyData := deepW (deepR M 8) d
inductive B2 where
  | add | sub | mul | fdiv | mod | pow
inductive C2 where
  | eq | ne | lt | le | gt | ge | is | isn | inn | nin
inductive TyC where
  | int | bool | tuple | list | dict | str
def mulOk (i j : Int) : Bool := decide (i.natAbs.log2 + j.natAbs.log2 < 1000000) || decide (i.natAbs < 2 ^ 64) || decide (j.natAbs < 2 ^ 64)
def divOk (j : Int) : Bool := decide (j ≠ 0) && decide (j.natAbs.log2 < 9000)
def sizeOk (n : Nat) : Bool := decide (n ≤ sizeLine)
def bin (o : B2) (x y : D) (s : HS b) : R b D := match o with
  | .add => (match x, y with
    | .int i, .int j => ret (.int (i + j)) s
    | .str a, .str b => if sizeOk (a.length + b.length) then ret (.str (a ++ b)) s else none
    | .tup a, .tup b => if sizeOk (a.length + b.length) then ret (.tup (a ++ b)) s else none
    | .ref p, .ref q => (match s.M[p]?, s.M[q]? with
      | some (.lst true a), some (.lst true b) => if sizeOk (a.length + b.length) then ret (.ref s.M.length) (s.alloc (.lst true (a ++ b))) else none
      | _, _ => none)
    | _, _ => none)
  | .sub => (match x, y with
    | .int i, .int j => ret (.int (i - j)) s
    | _, _ => none)
  | .mul => (match x, y with
    | .int i, .int j => if mulOk i j then ret (.int (i * j)) s else none
    | .tup a, .int k => if !a.isEmpty && decide (0 ≤ k) && decide (k ≤ 1000) && decide (a.length ≤ 1000) then ret (.tup (List.replicate k.toNat a).flatten) s else none
    | _, _ => none)
  | .fdiv => (match x, y with
    | .int i, .int j => if divOk j then ret (.int (i.fdiv j)) s else none
    | _, _ => none)
  | .mod => (match x, y with
    | .int i, .int j => if decide (j ≠ 0) then ret (.int (i.fmod j)) s else none
    | _, _ => none)
  | .pow => (match x, y with
    | .int i, .int j => if decide (0 ≤ j) && decide (j ≤ 1000000) && decide (i.natAbs < 2 ^ 64) then ret (.int (i ^ j.toNat)) s else none
    | _, _ => none)
def eqD (M : List MO) (x y : D) : Option Bool := match deep M x, deep M y with
  | some a, some b => if SeqAt.shaped a && SeqAt.shaped b then some (PyData.eqv a b) else none
  | _, _ => none
def notN : PyData → Bool
  | .none => false
  | _ => true
def ltD (sw : Bool) (M : List MO) (x y : D) : Option Bool := match deep M x, deep M y with
  | some a, some b => if PySem.W.alike a b && notN a && decide (a.depth ≤ 64) then some (if sw then PySem.W.dataLt b a else PySem.W.dataLt a b) else none
  | _, _ => none
def inD (M : List MO) (x y : D) : Option Bool := match y with
  | .ref p => (match M[p]? with
    | some (.dct _ kvs) => if kOk x then some (getK kvs x).isSome else none
    | some (.lst _ _) => (match deep M x, deep M y with
      | some a, some (.list ds) => if SeqAt.shaped a && SeqAt.shaped (.list ds) then some (ds.any fun z => PyData.eqv z a) else none
      | _, _ => none)
    | _ => none)
  | .tup _ => (match deep M x, deep M y with
      | some a, some (.tuple ds) => if SeqAt.shaped a && SeqAt.shaped (.tuple ds) then some (ds.any fun z => PyData.eqv z a) else none
      | _, _ => none)
  | _ => none
def isD (x y : D) : Option Bool := match x, y with
  | .bl a, .bl b => some (decide (a = b))
  | .non, .non => some true
  | _, .non => some false
  | _, _ => none
def cmp (o : C2) (x y : D) (s : HS b) : R b D := match o with
  | .eq => (match eqD s.M x y with | some b => ret (.bl b) s | none => none)
  | .ne => (match eqD s.M x y with | some b => ret (.bl (!b)) s | none => none)
  | .lt => (match x, y with
    | .int i, .int j => ret (.bl (decide (i < j))) s
    | .tup _, .tup _ => (match ltD false s.M x y with | some b => ret (.bl b) s | none => none)
    | _, _ => none)
  | .le => (match x, y with
    | .int i, .int j => ret (.bl (decide (i ≤ j))) s
    | .tup _, .tup _ => (match (ltD true s.M x y).map (!·) with | some b => ret (.bl b) s | none => none)
    | _, _ => none)
  | .gt => (match x, y with
    | .int i, .int j => ret (.bl (decide (j < i))) s
    | .tup _, .tup _ => (match ltD true s.M x y with | some b => ret (.bl b) s | none => none)
    | _, _ => none)
  | .ge => (match x, y with
    | .int i, .int j => ret (.bl (decide (j ≤ i))) s
    | .tup _, .tup _ => (match (ltD false s.M x y).map (!·) with | some b => ret (.bl b) s | none => none)
    | _, _ => none)
  | .is => (match isD x y with | some b => ret (.bl b) s | none => none)
  | .isn => (match isD x y with | some b => ret (.bl (!b)) s | none => none)
  | .inn => (match inD s.M x y with | some b => ret (.bl b) s | none => none)
  | .nin => (match inD s.M x y with | some b => ret (.bl (!b)) s | none => none)
def truth (M : List MO) : D → Option Bool
  | .non => some false
  | .bl b => some b
  | .int i => some (i != 0)
  | .str x => if sizeOk x.length then some (x.length != 0) else none
  | .tup xs => some (!xs.isEmpty)
  | .ref i => (match M[i]? with
    | some (.lst _ xs) => some (!xs.isEmpty)
    | _ => none)
  | .fn _ => none
def isTy (M : List MO) (t : TyC) : D → Option Bool
  | .non => some false
  | .bl _ => some (match t with | .int => true | .bool => true | _ => false)
  | .int _ => some (match t with | .int => true | _ => false)
  | .str _ => some (match t with | .str => true | _ => false)
  | .tup _ => some (match t with | .tuple => true | _ => false)
  | .ref i => (match M[i]? with
    | some (.lst _ _) => some (match t with | .list => true | _ => false)
    | some (.dct _ _) => some (match t with | .dict => true | _ => false)
    | _ => none)
  | .fn _ => none
def index (x y : D) (s : HS b) : R b D := match x, y with
  | .tup xs, .int i => (match L2.atI xs i with | some d => ret d s | none => none)
  | .ref p, y => (match s.M[p]? with
    | some (.lst _ xs) => (match y with
      | .int i => (match L2.atI xs i with | some d => ret d s | none => none)
      | _ => none)
    | some (.dct _ kvs) => if kOk y then (match getK kvs y with | some d => ret d s | none => none) else none
    | _ => none)
  | _, _ => none
def cutD (xs : List D) (lo hi : Option Int) : List D := (xs.drop (HT.sIx xs.length 0 lo)).take (HT.sIx xs.length xs.length hi - HT.sIx xs.length 0 lo)
def slice (x : D) (lo hi : Option Int) (s : HS b) : R b D := match x with
  | .tup xs => ret (.tup (cutD xs lo hi)) s
  | .ref p => (match s.M[p]? with
    | some (.lst _ xs) => ret (.ref s.M.length) (s.alloc (.lst true (cutD xs lo hi)))
    | _ => none)
  | _ => none
def asInts : List D → Option (List Int)
  | [] => some []
  | .int i :: r => (asInts r).map (i :: ·)
  | _ => none
def asBools : List D → Option (List Bool)
  | [] => some []
  | .bl i :: r => (asBools r).map (i :: ·)
  | _ => none
def items (M : List MO) : D → Option (List D)
  | .tup xs => some xs
  | .ref p => match M[p]? with
    | some (.lst _ xs) => some xs
    | _ => none
  | _ => none
inductive BI where
  | len | all | any | sum | tuple | list | int | max2 | min2 | repr | abs | dict | isi (t : TyC)
def call (g : BI) (xs : List D) (s : HS b) : R b D := match g with
  | .len => (match xs with
    | [x] => (match items s.M x with
      | some ys => ret (.int ys.length) s
      | none => (match x with
        | .ref p => (match s.M[p]? with
          | some (.dct _ kvs) => ret (.int kvs.length) s
          | _ => none)
        | _ => none))
    | _ => none)
  | .all => (match xs with
    | [.ref p] => (match s.M[p]? with
      | some (.lst _ ys) => (match asBools ys with | some bs => ret (.bl (bs.all id)) s | none => none)
      | _ => none)
    | _ => none)
  | .any => (match xs with
    | [.ref p] => (match s.M[p]? with
      | some (.lst _ ys) => (match asBools ys with | some bs => ret (.bl (bs.any id)) s | none => none)
      | _ => none)
    | [.tup ys] => (match asInts ys with | some ns => ret (.bl ((ns.map (· != 0)).any id)) s | none => none)
    | _ => none)
  | .sum => (match xs with
    | [x] => (match items s.M x with
      | some ys => (match asInts ys with | some ns => ret (.int ns.sum) s | none => none)
      | none => none)
    | _ => none)
  | .tuple => (match xs with
    | [x] => (match items s.M x with | some ys => ret (.tup ys) s | none => none)
    | _ => none)
  | .list => (match xs with
    | [x] => (match items s.M x with | some ys => ret (.ref s.M.length) (s.alloc (.lst true ys)) | none => none)
    | _ => none)
  | .int => (match xs with
    | [.int i] => ret (.int i) s
    | [.bl b] => ret (.int (if b then 1 else 0)) s
    | _ => none)
  | .max2 => (match xs with
    | [.int i, .int j] => ret (.int (if j > i then j else i)) s
    | _ => none)
  | .min2 => (match xs with
    | [.int i, .int j] => ret (.int (if j < i then j else i)) s
    | _ => none)
  | .repr => (match xs with
    | [x] => (match deep s.M x with
      | some d => if d.showable && sizeOk d.shown.length && decide (d.depth ≤ 64) then ret (.str d.shown) s else none
      | none => (match x with
        | .ref p => (match s.M[p]? with
          | some (.dct _ []) => ret (.str "{}") s
          | _ => none)
        | _ => none))
    | _ => none)
  | .abs => (match xs with
    | [.int i] => ret (.int (if i < 0 then -i else i)) s
    | _ => none)
  | .dict => (match xs with
    | [.ref p] => (match s.M[p]? with
      | some (.lst _ ys) => (match pairsD ys with
        | some ps => if sizeOk ps.length then ret (.ref s.M.length) (s.alloc (.dct (foldK (0, []) ps).1 (foldK (0, []) ps).2)) else none
        | none => none)
      | some (.dct _ kvs) => (match copyK kvs with
        | some c => if sizeOk kvs.length then ret (.ref s.M.length) (s.alloc (.dct c.1 c.2)) else none
        | none => none)
      | _ => none)
    | _ => none)
  | .isi t => (match xs with
    | [x] => (match isTy s.M t x with | some b => ret (.bl b) s | none => none)
    | _ => none)
inductive MT where
  | append | get
def mtOk (m : MT) (M : List MO) (x : D) : Bool := match x with
  | .ref p => (match m, M[p]? with
    | .append, some (.lst true _) => true
    | .get, some (.dct _ _) => true
    | _, _ => false)
  | _ => false
def meth (m : MT) (x : D) (xs : List D) (s : HS b) : R b D := match m with
  | .append => (match x, xs with
    | .ref p, [v] => (match s.M[p]? with
      | some (.lst true ys) => if sizeOk (ys.length + 1) then ret .non (s.set p (.lst true (ys ++ [v]))) else none
      | _ => none)
    | _, _ => none)
  | .get => (match x, xs with
    | .ref p, [k] => (match s.M[p]? with
      | some (.dct _ kvs) => if kOk k then ret ((getK kvs k).getD .non) s else none
      | _ => none)
    | .ref p, [k, d] => (match s.M[p]? with
      | some (.dct _ kvs) => if kOk k then ret ((getK kvs k).getD d) s else none
      | _ => none)
    | _, _ => none)
inductive ITk where
  | val | range | range2 | zip | zipS
inductive Src where
  | its (xs : List D) | rng (lo : Int) (n : Nat) | live (p : Nat)
def Src.at (r : Src) (i : Nat) (s : HS b) : Option (Option D) := match r with
  | .its xs => some xs[i]?
  | .rng lo n => some (if i < n then some (.int (lo + i)) else none)
  | .live p => match s.M[p]? with
    | some (.lst _ xs) => some xs[i]?
    | _ => none
def src (k : ITk) (M : List MO) (xs : List D) : Option Src := match k with
  | .val => (match xs with
    | [.tup ys] => some (.its ys)
    | [.ref p] => (match M[p]? with
      | some (.lst _ _) => some (.live p)
      | _ => none)
    | _ => none)
  | .range => (match xs with
    | [.int n] => if decide (-(2 ^ 62) ≤ n) && decide (n < 2 ^ 62) then some (.rng 0 n.toNat) else none
    | _ => none)
  | .range2 => (match xs with
    | [.int a, .int b] => if decide (-(2 ^ 62) ≤ a) && decide (a < 2 ^ 62) && decide (-(2 ^ 62) ≤ b) && decide (b < 2 ^ 62) then some (.rng a (b - a).toNat) else none
    | _ => none)
  | .zip => (match xs with
    | [.tup a, .tup b] => some (.its (List.zipWith (fun x y => .tup [x, y]) a b))
    | _ => none)
  | .zipS => (match xs with
    | [.tup a, .tup b] => if a.length = b.length then some (.its (List.zipWith (fun x y => .tup [x, y]) a b)) else none
    | _ => none)
def srcR (k : ITk) (xs : List D) (s : HS b) : R b Src := match src k s.M xs with
  | none => none
  | some r => ret r s
inductive Tg where
  | nm (i : Nat) | tp (is : List Nat)
def setAll : List Nat → List D → Env → Option Env
  | [], [], e => some e
  | i :: is, d :: ds, e => setAll is ds (e.set i (some d))
  | _, _, _ => none
def Tg.slots : Tg → List Nat
  | .nm i => [i]
  | .tp is => is
def Tg.bind (t : Tg) (d : D) (e : Env) : Option Env := match t with
  | .nm i => some (e.set i (some d))
  | .tp is => match d with
    | .tup ds => setAll is ds e
    | _ => none
def Tg.bindM (t : Tg) (M : List MO) (d : D) (e : Env) : Option Env := match t with
  | .nm i => some (e.set i (some d))
  | .tp is => match d with
    | .tup ds => setAll is ds e
    | .ref p => (match M[p]? with
      | some (.lst _ ds) => setAll is ds e
      | _ => none)
    | _ => none
def wipeE (e : Env) : List Nat → Env
  | [] => e
  | v :: vs => (wipeE e vs).set v none
structure ArI where
  pn : List Str
  np : Nat
  dfl : List (Str × D)
def arrB (a : ArI) (n : Nat) (ks : List Str) : Bool := decide (n ≤ a.np) && decide ks.Nodup && (ks.all fun k => a.pn.contains k) && (ks.all fun k => !(a.pn.take n).contains k)
def arrV {α : Type} (pn : List Str) (kv : List (Str × α)) : List Str → Option (List α)
  | [] => some []
  | n :: r => match kv.lookup n, arrV pn kv r with
    | some d, some ds => some (d :: ds)
    | _, _ => none
def arr (a : ArI) (xs : List D) (ks : List Str) (ys : List D) : Option (List D) :=
  if arrB a xs.length ks && decide (ys.length = ks.length) then arrV a.pn (a.pn.zip xs ++ ks.zip ys ++ a.dfl) a.pn else none
inductive CE where
  | cst (d : D)
  | var (i : Nat)
  | glb (x : Str) (i : Int)
  | bin (o : B2) (a b : CE)
  | neg (a : CE)
  | cmp (o : C2) (a b : CE)
  | chn (o o2 : C2) (a b c : CE)
  | ands (es : List CE)
  | ors (es : List CE)
  | nt (a : CE)
  | ite (c a b : CE)
  | tup (es : List CE)
  | lst (es : List CE)
  | dct0
  | call (f : Nat) (es : List CE)
  | callk (f : Nat) (es : List CE) (ks : List Str) (kes : List CE)
  | bi (b : BI) (es : List CE)
  | mt (m : MT) (o : CE) (es : List CE)
  | idx (a b : CE)
  | slc (a : CE) (lo hi : Option CE)
  | lc (tg : Tg) (k : ITk) (src : List CE) (ifs : List CE) (elt : CE) (own : List Nat)
  | lc2 (tg : Tg) (k : ITk) (src : List CE) (ifs : List CE) (tg2 : Tg) (k2 : ITk) (src2 : List CE) (ifs2 : List CE) (elt : CE) (own own2 : List Nat)
  | srtF (f : Nat) (a : CE)
  | srtL (body a : CE)
  | excf (i : Nat) (f : Str)
  | exci (i : Nat) (x : Str)
  | bad
  | fld (a : CE) (f : Str)
  | mc (a : CE) (m : Str) (es : List CE) (ks : List Str) (kes : List CE)
  | new (c : Str) (es : List CE) (ks : List Str) (kes : List CE)
  | isC (a : CE) (c : Str)
  | dc (tg : Tg) (k : ITk) (src : List CE) (ifs : List CE) (ke ve : CE) (own : List Nat)
mutual
inductive CS where
  | exp (e : CE)
  | ret (e : CE)
  | set (t : Tg) (e : CE)
  | par (is : List Nat) (es : List CE)
  | aug (i : Nat) (o : B2) (e : CE)
  | sub (o i e : CE)
  | ite (c : CE) (a b : List CS)
  | for_ (tg : Tg) (k : ITk) (src : List CE) (body : List CS)
  | while_ (c : CE) (body : List CS)
  | raise (c : Nat) (es : List CE)
  | try_ (body : List CS) (hs : List CH)
  | pass
  | wall
  | fset (o : CE) (f : Str) (a : CE)
inductive CH where
  | mk (x : Str) (i : Option Nat) (suite : List CS)
end
def inOrder {α : Type} (xs : List α) (kz : List PyData) : List α := ((xs.zip kz).mergeSort (PySem.W.dataLe false Prod.snd)).map Prod.fst
def alikeB (ds : List PyData) : Bool := ds.all fun d => ds.all fun e => PySem.W.alike d e
def tupB : PyData → Bool
  | .tuple (_ :: _) => true
  | _ => false
def flatB : PyData → Bool
  | .tuple _ => false
  | .none => false
  | _ => true
def sortB (ds : List PyData) : Bool := ds.all tupB || ds.all flatB
def mapL (g : D → HS b → R b D) : List D → HS b → R b (List D)
  | [], s => ret [] s
  | x :: r, s => bnd (g x s) fun y s1 => bnd (mapL g r s1) fun ys s2 => ret (y :: ys) s2
def srtE (g : D → HS b → R b D) (x : D) (s : HS b) : R b D := match x with
  | .ref p => (match s.M[p]? with
    | some (.lst _ xs) => bnd (noX (mapL g xs s)) fun ks s1 => (match deepWL (deepR s1.M 8) ks with
      | some kz => if alikeB kz && sortB kz && kz.all (fun d => decide (d.depth ≤ 64)) then ret (.ref s1.M.length) (s1.alloc (.lst true (inOrder xs kz))) else none
      | none => none)
    | _ => none)
  | _ => none
structure Ev where
  cf : {b : List MO} → Nat → List D → HS b → R b D
  fu : Nat
  flds : Nat → List Str
  isx : Nat → Str → Bool
  mt : Nat → Str → Option Bool
  ar : Nat → Option ArI
  mth : Str → Str → Option Nat
  ini : Str → Option Nat
  fok : Str → Str → Bool
  isc : Str → Bool
abbrev Cur := Option (Nat × Nat × List (Str × D))
def lcL (at_ : Nat → HS b → Option (Option D)) (turn : D → HS b → R b (Option D)) : Nat → Nat → List D → HS b → R b (List D)
  | 0, _, _, _ => none
  | n + 1, i, acc, s => match at_ i s with
    | none => none
    | some none => ret acc s
    | some (some d) => bnd (turn d s) fun r s1 => match r with
      | some y => lcL at_ turn n (i + 1) (acc ++ [y]) s1
      | none => lcL at_ turn n (i + 1) acc s1
def lc2L (at_ : Nat → HS b → Option (Option D)) (turn : D → List D → HS b → R b (List D)) : Nat → Nat → List D → HS b → R b (List D)
  | 0, _, _, _ => none
  | n + 1, i, acc, s => match at_ i s with
    | none => none
    | some none => ret acc s
    | some (some d) => bnd (turn d acc s) fun acc1 s1 => lc2L at_ turn n (i + 1) acc1 s1
def dcL (at_ : Nat → HS b → Option (Option D)) (turn : D → HS b → R b (Option (D × D))) : Nat → Nat → Nat × KV → HS b → R b (Nat × KV)
  | 0, _, _, _ => none
  | n + 1, i, acc, s => match at_ i s with
    | none => none
    | some none => ret acc s
    | some (some d) => bnd (turn d s) fun r s1 => match r with
      | some y => if kOk y.1 && sizeOk (acc.2.length + 1) then dcL at_ turn n (i + 1) (epK acc.1 acc.2 y.1, putK acc.2 y.1 y.2) s1 else none
      | none => dcL at_ turn n (i + 1) acc s1
def isCD (isc : Str → Bool) (M : List MO) (c : Str) : D → Option Bool
  | .ref p => (match M[p]? with
    | some (.ins c' _) => if isc c' then some (decide (c' = c)) else none
    | some (.lst _ _) => some false
    | some (.dct _ _) => some false
    | none => none)
  | .fn _ => none
  | _ => some false
mutual
def evE (P : Ev) (X : Cur) : CE → Env → HS b → R b D
  | .cst d, _, s => ret d s
  | .var i, e, s => (match e[i]? with
    | some (some d) => ret d s
    | _ => none)
  | .glb _ i, _, s => ret (.int i) s
  | .bin o a b, e, s => bnd (evE P X a e s) fun x s1 => bnd (evE P X b e s1) fun y s2 => bin o x y s2
  | .neg a, e, s => bnd (evE P X a e s) fun x s1 => (match x with
    | .int i => ret (.int (-i)) s1
    | _ => none)
  | .cmp o a b, e, s => bnd (evE P X a e s) fun x s1 => bnd (evE P X b e s1) fun y s2 => cmp o x y s2
  | .chn o o2 a b c, e, s => bnd (evE P X a e s) fun x s1 => bnd (evE P X b e s1) fun y s2 => bnd (cmp o x y s2) fun z s3 => (match z with
    | .bl true => bnd (evE P X c e s3) fun w s4 => cmp o2 y w s4
    | .bl false => ret (.bl false) s3
    | _ => none)
  | .ands es, e, s => evAnd P X es e s
  | .ors es, e, s => evOr P X es e s
  | .nt a, e, s => bnd (evE P X a e s) fun x s1 => (match truth s1.M x with
    | some b => ret (.bl (!b)) s1
    | none => none)
  | .ite c a b, e, s => bnd (evE P X c e s) fun x s1 => (match truth s1.M x with
    | some true => evE P X a e s1
    | some false => evE P X b e s1
    | none => none)
  | .tup es, e, s => bnd (evL P X es e s) fun xs s1 => if sizeOk xs.length then ret (.tup xs) s1 else none
  | .lst es, e, s => bnd (evL P X es e s) fun xs s1 => if sizeOk xs.length then ret (.ref s1.M.length) (s1.alloc (.lst true xs)) else none
  | .dct0, _, s => ret (.ref s.M.length) (s.alloc (.dct 0 []))
  | .call f es, e, s => bnd (evL P X es e s) fun xs s1 => P.cf f xs s1
  | .callk f es ks kes, e, s => (match P.ar f with
    | some a => bnd (evL P X es e s) fun xs s1 => bnd (evL P X kes e s1) fun ys s2 => (match arr a xs ks ys with
      | some zs => P.cf f zs s2
      | none => none)
    | none => none)
  | .bi b es, e, s => bnd (evL P X es e s) fun xs s1 => PV.call b xs s1
  | .mt m o es, e, s => bnd (evE P X o e s) fun x s1 => if mtOk m s1.M x then bnd (evL P X es e s1) fun xs s2 => meth m x xs s2 else none
  | .idx a b, e, s => bnd (evE P X a e s) fun x s1 => bnd (evE P X b e s1) fun y s2 => index x y s2
  | .slc a lo hi, e, s => bnd (evE P X a e s) fun x s1 => bnd (evO P X lo e s1) fun l s2 => bnd (evO P X hi e s2) fun h s3 => slice x l h s3
  | .lc tg k sr ifs elt own, e, s => bnd (bnd (evL P X sr e s) fun xs s1 => srcR k xs s1) fun r s1 => bnd (lcL r.at (fun d s2 => noX (match tg.bind d (wipeE e own) with
        | none => none
        | some e1 => bnd (evIf P none ifs e1 s2) fun b s3 => if b then bnd (evE P none elt e1 s3) fun y s4 => ret (some y) s4 else ret none s3)) P.fu 0 [] s1)
        fun ys s2 => ret (.ref s2.M.length) (s2.alloc (.lst true ys))
  | .lc2 tg k sr ifs tg2 k2 sr2 ifs2 elt own own2, e, s => bnd (bnd (evL P X sr e s) fun xs s1 => srcR k xs s1) fun r s1 => bnd (lc2L r.at (fun d acc s2 => noX (match tg.bind d (wipeE e own) with
        | none => none
        | some e1 => bnd (evIf P none ifs e1 s2) fun t s3 => if t then bnd (bnd (bnd (evL P none sr2 e1 s3) fun xs s4 => srcR k2 xs s4) fun r2 s4 => lcL r2.at (fun d2 s5 => noX (match tg2.bind d2 (wipeE e1 own2) with
            | none => none
            | some e2 => bnd (evIf P none ifs2 e2 s5) fun t2 s6 => if t2 then bnd (evE P none elt e2 s6) fun y s7 => ret (some y) s7 else ret none s6)) P.fu 0 acc s4)
              fun ys s5 => if decide (ys.length ≤ P.fu) then ret ys s5 else none else ret acc s3)) P.fu 0 [] s1)
        fun ys s2 => ret (.ref s2.M.length) (s2.alloc (.lst true ys))
  | .srtF f a, e, s => bnd (evE P X a e s) fun x s1 => srtE (fun y s2 => P.cf f [y] s2) x s1
  | .srtL body a, e, s => bnd (evE P X a e s) fun x s1 => srtE (fun y s2 => evE P none body [some y] s2) x s1
  | .excf i f, e, s => (match X with
    | some (j, c, fs) => if i = j ∧ f ∈ P.flds c then (match e[i]? with
      | some none => (match fs.lookup f with | some d => ret d s | none => none)
      | _ => none) else none
    | none => none)
  | .exci i x, e, s => (match X with
    | some (j, c, _) => if i = j then (match e[i]? with
      | some none => if P.isx c x then ret (.bl true) s else none
      | _ => none) else none
    | none => none)
  | .bad, _, _ => none
  | .fld a f, e, s => bnd (evE P X a e s) fun x s1 => (match x with
    | .ref p => (match s1.M[p]? with
      | some (.ins c fs) => if P.fok c f then (match fs.lookup f with | some d => ret d s1 | none => none) else none
      | _ => none)
    | _ => none)
  | .mc a m es ks kes, e, s => bnd (evE P X a e s) fun x s1 => (match x with
    | .ref p => (match s1.M[p]? with
      | some (.ins c fs) => (match fs.lookup m, P.mth c m with
        | none, some f => (match P.ar f with
          | some r => bnd (evL P X es e s1) fun xs s2 => bnd (evL P X kes e s2) fun ys s3 => (match arr r (.ref p :: xs) ks ys with
            | some zs => P.cf f zs s3
            | none => none)
          | none => none)
        | _, _ => none)
      | _ => none)
    | _ => none)
  | .new c es ks kes, e, s => (match P.ini c with
    | some f => (match P.ar f with
      | some r => bnd (evL P X es e s) fun xs s1 => bnd (evL P X kes e s1) fun ys s2 => (match arr r (.ref s2.M.length :: xs) ks ys with
        | some zs => bnd (P.cf f zs (s2.alloc (.ins c []))) fun d s3 => (match d with
          | .non => ret (.ref s2.M.length) s3
          | _ => none)
        | none => none)
      | none => none)
    | none => none)
  | .isC a c, e, s => if P.isc c then bnd (evE P X a e s) fun x s1 => (match isCD P.isc s1.M c x with
    | some b => ret (.bl b) s1
    | none => none) else none
  | .dc tg k sr ifs ke ve own, e, s => bnd (bnd (evL P X sr e s) fun xs s1 => srcR k xs s1) fun r s1 => bnd (dcL r.at (fun d s2 => noX (match tg.bind d (wipeE e own) with
        | none => none
        | some e1 => bnd (evIf P none ifs e1 s2) fun b s3 => if b then bnd (evE P none ke e1 s3) fun y s4 => bnd (evE P none ve e1 s4) fun z s5 => ret (some (y, z)) s5 else ret none s3)) P.fu 0 (0, []) s1)
        fun ys s2 => ret (.ref s2.M.length) (s2.alloc (.dct ys.1 ys.2))
def evL (P : Ev) (X : Cur) : List CE → Env → HS b → R b (List D)
  | [], _, s => ret [] s
  | a :: r, e, s => bnd (evE P X a e s) fun x s1 => bnd (evL P X r e s1) fun xs s2 => ret (x :: xs) s2
def evO (P : Ev) (X : Cur) : Option CE → Env → HS b → R b (Option Int)
  | none, _, s => ret none s
  | some a, e, s => bnd (evE P X a e s) fun x s1 => (match x with
    | .int i => ret (some i) s1
    | _ => none)
def evAnd (P : Ev) (X : Cur) : List CE → Env → HS b → R b D
  | [], _, _ => none
  | a :: r, e, s => bnd (evE P X a e s) fun x s1 => (match r with
    | [] => ret x s1
    | _ :: _ => (match truth s1.M x with
      | some true => evAnd P X r e s1
      | some false => ret x s1
      | none => none))
def evOr (P : Ev) (X : Cur) : List CE → Env → HS b → R b D
  | [], _, _ => none
  | a :: r, e, s => bnd (evE P X a e s) fun x s1 => (match r with
    | [] => ret x s1
    | _ :: _ => (match truth s1.M x with
      | some true => ret x s1
      | some false => evOr P X r e s1
      | none => none))
def evIf (P : Ev) (X : Cur) : List CE → Env → HS b → R b Bool
  | [], _, s => ret true s
  | [c], e, s => bnd (evE P X c e s) fun x s1 => (match truth s1.M x with
    | some b => ret b s1
    | none => none)
  | _ :: _ :: _, _, _ => none
end
inductive SR (b : List MO) where
  | nx (e : Env) (s : HS b)
  | rt (d : D) (s : HS b)
  | ex (c : Nat) (fs : List (Str × D)) (e : Env) (s : HS b)
def lft {α : Type} (e : Env) (x : R b α) (f : α → HS b → Option (SR b)) : Option (SR b) := match x with
  | none => none
  | some (.ok a s) => f a s
  | some (.ex c fs s) => some (.ex c fs e s)
def sq (x : Option (SR b)) (f : Env → HS b → Option (SR b)) : Option (SR b) := match x with
  | some (.nx e s) => f e s
  | y => y
def forL (at_ : Nat → HS b → Option (Option D)) (turn : D → Env → HS b → Option (SR b)) : Nat → Nat → Env → HS b → Option (SR b)
  | 0, _, _, _ => none
  | n + 1, i, e, s => match at_ i s with
    | none => none
    | some none => some (.nx e s)
    | some (some d) => sq (turn d e s) fun e1 s1 => forL at_ turn n (i + 1) e1 s1
def whL (c : Env → HS b → R b Bool) (body : Env → HS b → Option (SR b)) : Nat → Env → HS b → Option (SR b)
  | 0, _, _ => none
  | n + 1, e, s => lft e (c e s) fun b s1 => if b then sq (body e s1) fun e2 s2 => whL c body n e2 s2 else some (.nx e s1)
def tst (x : R b D) : R b Bool := bnd x fun d s => match truth s.M d with
  | some b => ret b s
  | none => none
def setItem (o i v : D) (s : HS b) : Option (HS b) := match o with
  | .ref p => (match s.M[p]? with
    | some (.lst true xs) => (match i with
      | .int k => (match L2.ixN xs.length k with
        | some j => some (s.set p (.lst true (xs.set j v)))
        | none => none)
      | _ => none)
    | some (.dct ep kvs) => if kOk i && sizeOk (kvs.length + 1) then some (s.set p (.dct (epK ep kvs i) (putK kvs i v))) else none
    | _ => none)
  | _ => none
mutual
def exS (P : Ev) (X : Cur) : CS → Env → HS b → Option (SR b)
  | .exp a, e, s => lft e (evE P X a e s) fun _ s1 => some (.nx e s1)
  | .ret a, e, s => lft e (evE P X a e s) fun d s1 => some (.rt d s1)
  | .set t a, e, s => lft e (evE P X a e s) fun d s1 => (match t.bindM s1.M d e with
    | some e1 => some (.nx e1 s1)
    | none => none)
  | .par is es, e, s => lft e (evL P X es e s) fun ds s1 => (match setAll is ds e with
    | some e1 => some (.nx e1 s1)
    | none => none)
  | .aug i o a, e, s => (match e[i]? with
    | some (some x) => lft e (evE P X a e s) fun y s1 => (match x, y with
      | .int _, .int _ => lft e (bin o x y s1) fun z s2 => some (.nx (e.set i (some z)) s2)
      | _, _ => none)
    | _ => none)
  | .sub o i a, e, s => lft e (evE P X a e s) fun v s1 => lft e (evE P X o e s1) fun x s2 => lft e (evE P X i e s2) fun y s3 => (match setItem x y v s3 with
    | some s4 => some (.nx e s4)
    | none => none)
  | .ite c a b, e, s => lft e (tst (evE P X c e s)) fun t s1 => if t then exB P X a e s1 else exB P X b e s1
  | .for_ tg k sr body, e, s => lft e (bnd (evL P X sr e s) fun xs s1 => srcR k xs s1) fun r s1 => forL r.at (fun d e1 s2 => (match tg.bind d e1 with
        | none => none
        | some e2 => exB P X body e2 s2)) P.fu 0 e s1
  | .while_ c body, e, s => whL (fun e1 s1 => tst (evE P X c e1 s1)) (fun e1 s1 => exB P X body e1 s1) P.fu e s
  | .raise c es, e, s => lft e (evL P X es e s) fun ds s1 => if decide (ds.length = (P.flds c).length) then some (.ex c ((P.flds c).zip ds) e s1) else none
  | .try_ body hs, e, s => (match exB P X body e s with
    | some (.ex c1 fs e1 s1) => exH P c1 fs hs e1 s1
    | y => y)
  | .pass, e, s => some (.nx e s)
  | .wall, _, _ => none
  | .fset o f a, e, s => lft e (evE P X a e s) fun v s1 => lft e (evE P X o e s1) fun x s2 => (match x with
    | .ref p => (match s2.M[p]? with
      | some (.ins c fs) => if P.fok c f && decide (fs.length < 1000) then some (.nx e (s2.set p (.ins c (putFd f v fs)))) else none
      | _ => none)
    | _ => none)
def exB (P : Ev) (X : Cur) : List CS → Env → HS b → Option (SR b)
  | [], e, s => some (.nx e s)
  | a :: r, e, s => sq (exS P X a e s) fun e1 s1 => exB P X r e1 s1
def exH (P : Ev) (c : Nat) (fs : List (Str × D)) : List CH → Env → HS b → Option (SR b)
  | [], e, s => some (.ex c fs e s)
  | .mk x i suite :: r, e, s => (match P.mt c x with
    | some true => (match i with
      | some j => (match exB P (some (j, c, fs)) suite (e.set j none) s with
        | some (.nx e2 s2) => some (.nx (e2.set j none) s2)
        | some (.rt d s2) => some (.rt d s2)
        | _ => none)
      | none => (match exB P none suite e s with
        | some (.nx e2 s2) => some (.nx e2 s2)
        | some (.rt d s2) => some (.rt d s2)
        | _ => none))
    | some false => exH P c fs r e s
    | none => none)
end
def pull (n : Nat) (M : List MO) (d : D) : Option (D × List MO) := match d with
  | .ref p => if p < n then none else (match M[p]? with
    | some (.lst true xs) => if D.immL xs then some (.ref n, [.lst true xs]) else none
    | _ => none)
  | d => if d.imm then some (d, []) else none
def HS.grow (s : HS b) (x : List MO) : HS b := ⟨s.M ++ x, s.lo, s.ok.trans (List.prefix_append _ _)⟩
theorem take_pre {x y : List MO} (h : x <+: y) (n : Nat) : x.take n <+: y.take n := by
  obtain ⟨t, rfl⟩ := h
  rw [List.take_append]
  exact List.prefix_append _ _
theorem back_ok (s : HS b) (s1 : HS s.M) : b.take (min s.lo s1.lo) <+: s1.M := by
  have e : b.take (min s.lo s1.lo) = (b.take s.lo).take s1.lo := by rw [List.take_take, Nat.min_comm]
  rw [e]
  exact (take_pre s.ok s1.lo).trans s1.ok
def HS.back (s : HS b) (s1 : HS s.M) : HS b := ⟨s1.M, min s.lo s1.lo, back_ok s s1⟩
def fin (s : HS b) (d : D) (s1 : HS s.M) : R b D :=
  if s1.lo = s.M.length then (match pull s.M.length s1.M d with
    | some (d', x) => ret d' (s.grow x)
    | none => ret d (s.back s1)) else ret d (s.back s1)
def finish (s : HS b) (r : Option (SR s.M)) : R b D := match r with
  | none => none
  | some (.nx _ s1) => fin s .non s1
  | some (.rt d s1) => fin s d s1
  | some (.ex c fs _ s1) => some (.ex c fs (s.back s1))
structure Fd where
  ps : Nat
  n : Nat
  body : List CS
structure Pg where
  tb : Nat → Option Fd
  fu : Nat
  flds : Nat → List Str
  isx : Nat → Str → Bool
  mt : Nat → Str → Option Bool
  ar : Nat → Option ArI
  mth : Str → Str → Option Nat := fun _ _ => none
  ini : Str → Option Nat := fun _ => none
  fok : Str → Str → Bool := fun _ _ => false
  isc : Str → Bool := fun _ => false
def callF (p : Pg) : Nat → {b : List MO} → Nat → List D → HS b → R b D
  | 0, _, _, _, _ => none
  | k + 1, _, f, xs, s => match p.tb f with
    | none => none
    | some d => if xs.length = d.ps then finish s (exB ⟨fun {_} => callF p k, p.fu, p.flds, p.isx, p.mt, p.ar, p.mth, p.ini, p.fok, p.isc⟩ none d.body (xs.map some ++ List.replicate (d.n - xs.length) none) (HS.start s.M)) else none
end PV
set_option Elab.async false
set_option linter.all false
set_option autoImplicit false
set_option maxRecDepth 100000
set_option maxHeartbeats 1000000
namespace PV
open PySem PySem.Spec PyProof.Rows L2
def Stb : HO → Bool
  | .tup _ => true
  | .frz _ _ => true
  | .xd _ => true
  | _ => false
def Ext (H H' : Hp) : Prop := ∀ a u, Stb u = true → H a = some u → H' a = some u
theorem Ext.refl (H : Hp) : Ext H H := fun _ _ _ h => h
theorem Ext.trans {H H1 H2 : Hp} (a : Ext H H1) (b : Ext H1 H2) : Ext H H2 := fun c u s h => b c u s (a c u s h)
theorem Ext.same {H H' : Hp} (h : Same H H') : Ext H H' := fun a u _ e => h a u e
theorem Same.new {H : Hp} {p : Addr} {o : HO} (h : H p = none) : Same H (upd H p o) := fun b u e => by
  rw [upd_ne (ne_of_none e h)]; exact e
theorem Ext.new {H : Hp} {p : Addr} {o : HO} (h : H p = none) : Ext H (upd H p o) := Ext.same (Same.new h)
theorem Ext.upd {H : Hp} {p : Addr} {o u : HO} (h : H p = some o) (n : Stb o = false) : Ext H (upd H p u) := fun a w s e => by
  have ne : a ≠ p := fun z => by
    subst z; rw [h] at e; cases e; rw [n] at s; cases s
  rw [upd_ne ne]; exact e
theorem Ext.sqT {K : PySem.W.Frag} {H H' : Hp} (x : Ext H H') {a : Addr} {xs : List V} (h : SqT K H a xs) : SqT K H' a xs := by
  rcases h with (h | ⟨o, h⟩) | h
  · exact .inl (.inl (x _ _ rfl h))
  · exact .inl (.inr ⟨o, x _ _ rfl h⟩)
  · exact .inr h
def Fz (K : PySem.W.Frag) (H : Hp) (a : Addr) (xs : List V) : Prop :=
  (∃ o, H a = some (.frz o (.lst xs))) ∨ ∃ (o : Obj) (its : Array Value) (n : Nat), K.lookup a = some o ∧ o.cls = .type "list" ∧ o.dict = none ∧ o.data = .seq its n ∧ its.size ≤ sizeLine ∧ Vals xs its.toList
theorem Fz.sq {K : PySem.W.Frag} {H : Hp} {a : Addr} {xs : List V} (h : Fz K H a xs) : SqL K H a xs := by
  rcases h with h | h
  · exact .inl (.inr h)
  · exact .inr h
theorem Ext.fz {K : PySem.W.Frag} {H H' : Hp} (x : Ext H H') {a : Addr} {xs : List V} (h : Fz K H a xs) : Fz K H' a xs := by
  rcases h with ⟨o, h⟩ | h
  · exact .inl ⟨o, x _ _ rfl h⟩
  · exact .inr h
abbrev RA := List (Addr × Bool)
mutual
def Rep (K : PySem.W.Frag) (r : RA) (H : Hp) : D → V → Prop
  | .non, v => v = .non
  | .bl x, v => v = .bl x
  | .int i, v => v = .int i
  | .str x, v => v = .str x
  | .tup xs, v => ∃ a vs, v = .ref a ∧ SqT K H a vs ∧ RepL K r H xs vs
  | .ref i, v => ∃ a w, r[i]? = some (a, w) ∧ v = .ref a
  | .fn x, v => v = .ref (He.ga K x)
def RepL (K : PySem.W.Frag) (r : RA) (H : Hp) : List D → List V → Prop
  | [], vs => vs = []
  | x :: xs, vs => ∃ v vr, vs = v :: vr ∧ Rep K r H x v ∧ RepL K r H xs vr
end
section
variable {K : PySem.W.Frag} {r r' : RA} {H H' : Hp}
theorem RepL.length : ∀ {xs : List D} {vs : List V}, RepL K r H xs vs → vs.length = xs.length
  | [], vs, h => by rw [show vs = [] from h]; rfl
  | x :: xs, vs, h => by
    obtain ⟨v, vr, rfl, _, t⟩ := h
    simp [RepL.length t]
theorem RepL.get : ∀ {xs : List D} {vs : List V} {i : Nat} {x : D}, RepL K r H xs vs → xs[i]? = some x → ∃ v, vs[i]? = some v ∧ Rep K r H x v
  | [], _, _, _, _, e => by simp at e
  | y :: xs, vs, 0, x, h, e => by
    obtain ⟨v, vr, rfl, h1, _⟩ := h
    have e' : y = x := by simpa using e
    subst e'
    exact ⟨v, rfl, h1⟩
  | y :: xs, vs, i + 1, x, h, e => by
    obtain ⟨v, vr, rfl, _, t⟩ := h
    obtain ⟨w, e1, e2⟩ := RepL.get (i := i) t (by simpa using e)
    exact ⟨w, by simpa using e1, e2⟩
theorem RepL.app : ∀ {xs ys : List D} {vs ws : List V}, RepL K r H xs vs → RepL K r H ys ws → RepL K r H (xs ++ ys) (vs ++ ws)
  | [], _, vs, ws, h, h' => by
    rw [show vs = [] from h]
    exact h'
  | x :: xs, ys, vs, ws, h, h' => by
    obtain ⟨v, vr, rfl, h1, t⟩ := h
    exact ⟨v, vr ++ ws, rfl, h1, RepL.app t h'⟩
theorem RepL.take : ∀ {xs : List D} {vs : List V} (n : Nat), RepL K r H xs vs → RepL K r H (xs.take n) (vs.take n)
  | _, _, 0, _ => rfl
  | [], vs, n + 1, h => by rw [show vs = [] from h]; rfl
  | x :: xs, vs, n + 1, h => by
    obtain ⟨v, vr, rfl, h1, t⟩ := h
    exact ⟨v, vr.take n, rfl, h1, RepL.take n t⟩
theorem RepL.drop : ∀ {xs : List D} {vs : List V} (n : Nat), RepL K r H xs vs → RepL K r H (xs.drop n) (vs.drop n)
  | _, _, 0, h => h
  | [], vs, n + 1, h => by rw [show vs = [] from h]; rfl
  | x :: xs, vs, n + 1, h => by
    obtain ⟨v, vr, rfl, h1, t⟩ := h
    exact RepL.drop n t
theorem RepL.set : ∀ {xs : List D} {vs : List V} (i : Nat) {x : D} {v : V}, RepL K r H xs vs → Rep K r H x v → RepL K r H (xs.set i x) (vs.set i v)
  | [], vs, i, _, _, h, _ => by rw [show vs = [] from h]; rfl
  | y :: xs, vs, 0, x, v, h, q => by
    obtain ⟨w, vr, rfl, h1, t⟩ := h
    exact ⟨v, vr, rfl, q, t⟩
  | y :: xs, vs, i + 1, x, v, h, q => by
    obtain ⟨w, vr, rfl, h1, t⟩ := h
    exact ⟨w, vr.set i v, rfl, h1, RepL.set i t q⟩
theorem RepL.rep {xs : List D} {vs : List V} (h : RepL K r H xs vs) : ∀ n : Nat, RepL K r H (List.replicate n xs).flatten (List.replicate n vs).flatten
  | 0 => rfl
  | n + 1 => by
    rw [List.replicate_succ, List.replicate_succ, List.flatten_cons, List.flatten_cons]
    exact h.app (RepL.rep h n)
theorem RepL.ints : ∀ {xs : List D} {vs : List V} {ns : List Int}, RepL K r H xs vs → asInts xs = some ns → vs = ns.map V.int
  | [], vs, ns, h, e => by
    rw [show vs = [] from h]
    cases e
    rfl
  | .int i :: xs, vs, ns, h, e => by
    obtain ⟨v, vr, rfl, h1, t⟩ := h
    rw [show v = .int i from h1]
    unfold asInts at e
    cases q : asInts xs with
    | none => rw [q] at e; cases e
    | some ms =>
      rw [q] at e
      cases e
      rw [RepL.ints t q]
      rfl
  | .non :: _, _, _, _, e => by cases e
  | .bl _ :: _, _, _, _, e => by cases e
  | .str _ :: _, _, _, _, e => by cases e
  | .tup _ :: _, _, _, _, e => by cases e
  | .ref _ :: _, _, _, _, e => by cases e
  | .fn _ :: _, _, _, _, e => by cases e
theorem RepL.bools : ∀ {xs : List D} {vs : List V} {ns : List Bool}, RepL K r H xs vs → asBools xs = some ns → vs = ns.map V.bl
  | [], vs, ns, h, e => by
    rw [show vs = [] from h]
    cases e
    rfl
  | .bl i :: xs, vs, ns, h, e => by
    obtain ⟨v, vr, rfl, h1, t⟩ := h
    rw [show v = .bl i from h1]
    unfold asBools at e
    cases q : asBools xs with
    | none => rw [q] at e; cases e
    | some ms =>
      rw [q] at e
      cases e
      rw [RepL.bools t q]
      rfl
  | .non :: _, _, _, _, e => by cases e
  | .int _ :: _, _, _, _, e => by cases e
  | .str _ :: _, _, _, _, e => by cases e
  | .tup _ :: _, _, _, _, e => by cases e
  | .ref _ :: _, _, _, _, e => by cases e
  | .fn _ :: _, _, _, _, e => by cases e
mutual
theorem Rep.mono (hp : r <+: r') (hx : Ext H H') : ∀ (d : D) (v : V), Rep K r H d v → Rep K r' H' d v
  | .non, _, h => h
  | .bl _, _, h => h
  | .int _, _, h => h
  | .str _, _, h => h
  | .tup xs, v, h => by
    obtain ⟨a, vs, e, q, t⟩ := h
    exact ⟨a, vs, e, hx.sqT q, RepL.mono hp hx xs vs t⟩
  | .fn _, _, h => h
  | .ref i, v, h => by
    obtain ⟨a, w, e, q⟩ := h
    obtain ⟨t, rfl⟩ := hp
    refine ⟨a, w, ?_, q⟩
    rw [List.getElem?_append_left (List.getElem?_eq_some_iff.mp e).1]
    exact e
theorem RepL.mono (hp : r <+: r') (hx : Ext H H') : ∀ (ds : List D) (vs : List V), RepL K r H ds vs → RepL K r' H' ds vs
  | [], _, h => h
  | x :: xs, vs, h => by
    obtain ⟨v, vr, e, h1, t⟩ := h
    exact ⟨v, vr, e, Rep.mono hp hx x v h1, RepL.mono hp hx xs vr t⟩
end
mutual
theorem Rep.imm (hx : Ext H H') : ∀ (d : D) (v : V), d.imm = true → Rep K r H d v → Rep K r' H' d v
  | .non, _, _, h => h
  | .bl _, _, _, h => h
  | .int _, _, _, h => h
  | .str _, _, _, h => h
  | .tup xs, v, i, h => by
    obtain ⟨a, vs, e, q, t⟩ := h
    exact ⟨a, vs, e, hx.sqT q, RepL.imm hx xs vs (by simpa [D.imm] using i) t⟩
  | .fn _, _, _, h => h
  | .ref i, v, n, h => by simp [D.imm] at n
theorem RepL.imm (hx : Ext H H') : ∀ (ds : List D) (vs : List V), D.immL ds = true → RepL K r H ds vs → RepL K r' H' ds vs
  | [], _, _, h => h
  | x :: xs, vs, i, h => by
    obtain ⟨v, vr, e, h1, t⟩ := h
    have i' : x.imm = true ∧ D.immL xs = true := by simpa [D.immL] using i
    exact ⟨v, vr, e, Rep.imm hx x v i'.1 h1, RepL.imm hx xs vr i'.2 t⟩
end
end
def DctO (ω : World) (d : Addr) (ep : Nat) (xs : List DE) : HO := .ext fun h => (d == sysModules) = false ∧ xs.length ≤ sizeLine ∧ ∃ o es, h.get? d = some o ∧ o.ExactDict ∧ o.data = .dict es ep ∧ es.toList = xs.map (entA ω)
def RepKV (K : PySem.W.Frag) (r : RA) (H : Hp) : KV → List DE → Prop
  | [], xs => xs = []
  | p :: ps, xs => ∃ x xr, xs = x :: xr ∧ kOk p.1 = true ∧ x.1 = kD p.1 ∧ (∃ v, RelV v x.2.1 ∧ Rep K r H p.1 v) ∧ (∃ v, RelV v x.2.2 ∧ Rep K r H p.2 v) ∧ RepKV K r H ps xr
def RepF (K : PySem.W.Frag) (r : RA) (H : Hp) : List (Str × D) → List (Str × V) → Prop
  | [], fv => fv = []
  | p :: ps, fv => ∃ v vr, fv = (p.1, v) :: vr ∧ Rep K r H p.2 v ∧ RepF K r H ps vr
section
variable {K : PySem.W.Frag} {r r' : RA} {H H' : Hp}
theorem RepKV.mono (hp : r <+: r') (hx : Ext H H') : ∀ (kvs : KV) (xs : List DE), RepKV K r H kvs xs → RepKV K r' H' kvs xs
  | [], _, h => h
  | p :: ps, xs, h => by
    obtain ⟨x, xr, e, h1, h2, ⟨v, h3, h4⟩, ⟨u, h5, h6⟩, h7⟩ := h
    exact ⟨x, xr, e, h1, h2, ⟨v, h3, Rep.mono hp hx _ _ h4⟩, ⟨u, h5, Rep.mono hp hx _ _ h6⟩, RepKV.mono hp hx ps xr h7⟩
theorem RepF.mono (hp : r <+: r') (hx : Ext H H') : ∀ (fs : List (Str × D)) (fv : List (Str × V)), RepF K r H fs fv → RepF K r' H' fs fv
  | [], _, h => h
  | p :: ps, fv, h => by
    obtain ⟨v, vr, e, h1, h2⟩ := h
    exact ⟨v, vr, e, Rep.mono hp hx _ _ h1, RepF.mono hp hx ps vr h2⟩
theorem RepKV.length : ∀ {kvs : KV} {xs : List DE}, RepKV K r H kvs xs → xs.length = kvs.length
  | [], xs, h => by rw [show xs = [] from h]; rfl
  | p :: ps, xs, h => by
    obtain ⟨x, xr, rfl, _, _, _, _, h7⟩ := h
    simp [RepKV.length h7]
theorem RepF.length : ∀ {fs : List (Str × D)} {fv : List (Str × V)}, RepF K r H fs fv → fv.length = fs.length
  | [], xs, h => by rw [show xs = [] from h]; rfl
  | p :: ps, xs, h => by
    obtain ⟨v, vr, rfl, _, h7⟩ := h
    simp [RepF.length h7]
theorem RepF.look {f : Str} : ∀ {fs : List (Str × D)} {fv : List (Str × V)} {d : D}, RepF K r H fs fv → fs.lookup f = some d → ∃ v, fv.lookup f = some v ∧ Rep K r H d v
  | [], _, _, _, e => by cases e
  | (g, x) :: ps, fv, d, h, e => by
    obtain ⟨v, vr, rfl, h1, h2⟩ := h
    simp only [List.lookup] at e ⊢
    cases q : (f == g) with
    | true =>
      rw [q] at e
      cases e
      exact ⟨v, rfl, h1⟩
    | false =>
      rw [q] at e
      exact RepF.look h2 e
theorem RepF.none {f : Str} : ∀ {fs : List (Str × D)} {fv : List (Str × V)}, RepF K r H fs fv → fs.lookup f = none → fv.lookup f = none
  | [], fv, h, _ => by rw [show fv = [] from h]; rfl
  | (g, x) :: ps, fv, h, e => by
    obtain ⟨v, vr, rfl, h1, h2⟩ := h
    simp only [List.lookup] at e ⊢
    cases q : (f == g) with
    | true => rw [q] at e; cases e
    | false =>
      rw [q] at e
      exact RepF.none h2 e
theorem RepF.put {f : Str} {d : D} {v : V} (hd : Rep K r H d v) : ∀ {fs : List (Str × D)} {fv : List (Str × V)}, RepF K r H fs fv → RepF K r H (putFd f d fs) (putF f v fv)
  | [], fv, h => by
    rw [show fv = [] from h]
    exact ⟨v, [], rfl, hd, rfl⟩
  | (g, x) :: ps, fv, h => by
    obtain ⟨u, vr, rfl, h1, h2⟩ := h
    simp only [putFd, putF]
    split
    · exact ⟨v, vr, rfl, hd, h2⟩
    · exact ⟨u, _, rfl, h1, RepF.put hd h2⟩
theorem RepKV.fi {k : D} : ∀ {kvs : KV} {xs : List DE}, RepKV K r H kvs xs → fiA xs (kD k) = fiK kvs k
  | [], xs, h => by rw [show xs = [] from h]; rfl
  | p :: ps, xs, h => by
    obtain ⟨x, xr, rfl, h1, h2, _, _, h7⟩ := h
    have ih := RepKV.fi (k := k) h7
    unfold fiA fiK at ih ⊢
    rw [List.findIdx?_cons, List.findIdx?_cons, ih]
    have e : isK (kD k) x = NestedKey.beq (kD p.1) (kD k) := by
      unfold isK
      rw [h2, NestedKey.decide_eq]
    rw [e]
theorem RepKV.get : ∀ {kvs : KV} {xs : List DE} {i : Nat} {p : D × D}, RepKV K r H kvs xs → kvs[i]? = some p → ∃ x, xs[i]? = some x ∧ x.1 = kD p.1 ∧ kOk p.1 = true ∧ (∃ v, RelV v x.2.1 ∧ Rep K r H p.1 v) ∧ ∃ v, RelV v x.2.2 ∧ Rep K r H p.2 v
  | [], _, _, _, _, e => by simp at e
  | q :: ps, xs, 0, p, h, e => by
    obtain ⟨x, xr, rfl, h1, h2, h3, h4, _⟩ := h
    have e' : q = p := by simpa using e
    subst e'
    exact ⟨x, rfl, h2, h1, h3, h4⟩
  | q :: ps, xs, i + 1, p, h, e => by
    obtain ⟨x, xr, rfl, _, _, _, _, h7⟩ := h
    obtain ⟨y, e1, e2⟩ := RepKV.get (i := i) h7 (by simpa using e)
    exact ⟨y, by simpa using e1, e2⟩
theorem RepKV.val {k d : D} {kvs : KV} {xs : List DE} (h : RepKV K r H kvs xs) (e : getK kvs k = some d) : ∃ u v, valA xs (kD k) = some u ∧ RelV v u ∧ Rep K r H d v := by
  unfold getK at e
  unfold valA
  rw [h.fi]
  cases q : fiK kvs k with
  | none => rw [q] at e; cases e
  | some i =>
    rw [q] at e
    cases z : kvs[i]? with
    | none => simp [z] at e
    | some p =>
      simp [z] at e
      subst e
      obtain ⟨x, e1, _, _, _, v, e5, e6⟩ := h.get z
      exact ⟨x.2.2, v, by simp [e1], e5, e6⟩
theorem RepKV.val0 {k : D} {kvs : KV} {xs : List DE} (h : RepKV K r H kvs xs) (e : getK kvs k = none) : valA xs (kD k) = none := by
  unfold getK at e
  unfold valA
  rw [h.fi]
  cases q : fiK kvs k with
  | none => rfl
  | some i =>
    rw [q] at e
    cases z : kvs[i]? with
    | none =>
      have hl := h.length
      have : xs[i]? = none := by
        rw [List.getElem?_eq_none_iff] at z ⊢
        omega
      simp [this]
    | some p => simp [z] at e
theorem RepKV.isSome {k : D} {kvs : KV} {xs : List DE} (h : RepKV K r H kvs xs) : (valA xs (kD k)).isSome = (getK kvs k).isSome := by
  cases e : getK kvs k with
  | none => rw [h.val0 e]; rfl
  | some d =>
    obtain ⟨u, v, e1, _⟩ := h.val e
    rw [e1]
    rfl
theorem RepKV.app : ∀ {kvs kws : KV} {xs ys : List DE}, RepKV K r H kvs xs → RepKV K r H kws ys → RepKV K r H (kvs ++ kws) (xs ++ ys)
  | [], _, xs, ys, h, h' => by
    rw [show xs = [] from h]
    exact h'
  | p :: ps, _, xs, ys, h, h' => by
    obtain ⟨x, xr, rfl, h1, h2, h3, h4, h7⟩ := h
    exact ⟨x, xr ++ ys, rfl, h1, h2, h3, h4, RepKV.app h7 h'⟩
theorem RepKV.mod {d : D} {v : V} {u : Value} (hv : RelV v u) (hd : Rep K r H d v) : ∀ {kvs : KV} {xs : List DE} (i : Nat), RepKV K r H kvs xs → RepKV K r H (kvs.modify i fun p => (p.1, d)) (xs.modify i fun x => (x.1, x.2.1, u))
  | [], xs, i, h => by rw [show xs = [] from h]; simp [RepKV]
  | p :: ps, xs, 0, h => by
    obtain ⟨x, xr, rfl, h1, h2, h3, h4, h7⟩ := h
    exact ⟨(x.1, x.2.1, u), xr, rfl, h1, h2, h3, ⟨v, hv, hd⟩, h7⟩
  | p :: ps, xs, i + 1, h => by
    obtain ⟨x, xr, rfl, h1, h2, h3, h4, h7⟩ := h
    exact ⟨x, _, rfl, h1, h2, h3, h4, RepKV.mod hv hd i h7⟩
theorem RepKV.erase : ∀ {kvs : KV} {xs : List DE} (i : Nat), RepKV K r H kvs xs → RepKV K r H (kvs.eraseIdx i) (xs.eraseIdx i)
  | [], xs, i, h => by rw [show xs = [] from h]; simp [RepKV]
  | p :: ps, xs, 0, h => by
    obtain ⟨x, xr, rfl, h1, h2, h3, h4, h7⟩ := h
    exact h7
  | p :: ps, xs, i + 1, h => by
    obtain ⟨x, xr, rfl, h1, h2, h3, h4, h7⟩ := h
    exact ⟨x, _, rfl, h1, h2, h3, h4, RepKV.erase i h7⟩
theorem RepKV.put {k d : D} {v w : V} {u z : Value} {kvs : KV} {xs : List DE} (h : RepKV K r H kvs xs) (hk : kOk k = true) (hw : RelV w z) (rk : Rep K r H k w) (hv : RelV v u) (hd : Rep K r H d v) : RepKV K r H (putK kvs k d) (stA xs (kD k) z u) := by
  unfold putK stA
  rw [h.fi]
  cases fiK kvs k with
  | none => exact h.app ⟨_, [], rfl, hk, rfl, ⟨w, hw, rk⟩, ⟨v, hv, hd⟩, rfl⟩
  | some i => exact RepKV.mod hv hd i h
theorem RepKV.ep {k : D} {kvs : KV} {xs : List DE} (h : RepKV K r H kvs xs) (ep : Nat) : epA ep xs (kD k) = epK ep kvs k := by
  unfold epA epK
  rw [h.fi] <;> rfl
end
def RO (ω : World) (K : PySem.W.Frag) (r : RA) (H : Hp) (a : Addr) : MO → Prop
  | .lst true xs => ∃ vs, H a = some (.lst vs) ∧ RepL K r H xs vs
  | .lst false xs => ∃ vs, Fz K H a vs ∧ RepL K r H xs vs
  | .dct ep kvs => ∃ xs, H a = some (DctO ω a ep xs) ∧ (xs.map (·.1)).Nodup ∧ RepKV K r H kvs xs
  | .ins c fs => ∃ dx fv, H a = some (.ins (He.ga K c) dx fv) ∧ RepF K r H fs fv
def MO.wr : MO → Bool
  | .lst false _ => false
  | _ => true
structure Rel (ω : World) (K : PySem.W.Frag) (r : RA) (M : List MO) (H : Hp) : Prop where
  len : r.length = M.length
  nd : ∀ (i j : Nat) (a : Addr), r[i]? = some (a, true) → r[j]? = some (a, true) → i = j
  obj : ∀ (i : Nat) (o : MO) (a : Addr) (w : Bool), M[i]? = some o → r[i]? = some (a, w) → w = o.wr ∧ RO ω K r H a o
theorem wr_some {ω : World} {K : PySem.W.Frag} {r : RA} {H : Hp} {a : Addr} {o : MO} (h : RO ω K r H a o) (w : o.wr = true) : ∃ u, H a = some u ∧ Stb u = false := by
  cases o with
  | lst w' xs =>
    cases w' with
    | true => obtain ⟨vs, e, _⟩ := h; exact ⟨_, e, rfl⟩
    | false => cases w
  | dct ep kvs => obtain ⟨_, e, _⟩ := h; exact ⟨_, e, rfl⟩
  | ins c fs => obtain ⟨_, _, e, _⟩ := h; exact ⟨_, e, rfl⟩
section
variable {ω : World} {K : PySem.W.Frag} {r r' : RA} {H H' : Hp} {M : List MO}
theorem RO.mono {a : Addr} {o : MO} (hp : r <+: r') (hx : Ext H H') (ha : o.wr = true → H' a = H a) (h : RO ω K r H a o) : RO ω K r' H' a o := by
  cases o with
  | lst w xs =>
    cases w with
    | true =>
      obtain ⟨vs, e, t⟩ := h
      exact ⟨vs, by rw [ha rfl]; exact e, RepL.mono hp hx xs vs t⟩
    | false =>
      obtain ⟨vs, e, t⟩ := h
      exact ⟨vs, hx.fz e, RepL.mono hp hx xs vs t⟩
  | dct ep kvs =>
    obtain ⟨z, e, n, t⟩ := h
    exact ⟨z, by rw [ha rfl]; exact e, n, RepKV.mono hp hx _ _ t⟩
  | ins c fs =>
    obtain ⟨dx, fv, e, t⟩ := h
    exact ⟨dx, fv, by rw [ha rfl]; exact e, RepF.mono hp hx _ _ t⟩
theorem Rel.ob (R : Rel ω K r M H) {i : Nat} {o : MO} {a : Addr} {w : Bool} (e : M[i]? = some o) (q : r[i]? = some (a, w)) : RO ω K r H a o := (R.obj i o a w e q).2
theorem Rel.objOf (R : Rel ω K r M H) {i : Nat} {a : Addr} {w : Bool} (q : r[i]? = some (a, w)) : ∃ o, M[i]? = some o := by
  have hi : i < M.length := by rw [← R.len]; exact (List.getElem?_eq_some_iff.mp q).1
  exact ⟨M[i], by simp [hi]⟩
theorem Rel.live (R : Rel ω K r M H) {i : Nat} {a : Addr} (q : r[i]? = some (a, true)) : ∃ u, H a = some u ∧ Stb u = false := by
  obtain ⟨o, e⟩ := R.objOf q
  obtain ⟨h1, h2⟩ := R.obj i o a true e q
  exact wr_some h2 h1.symm
theorem Rel.same (R : Rel ω K r M H) (hs : Same H H') : Rel ω K r M H' :=
  ⟨R.len, R.nd, fun i o a w e q => ⟨(R.obj i o a w e q).1, (R.ob e q).mono List.prefix_rfl (Ext.same hs) fun w' => by
    obtain ⟨u, hu, _⟩ := wr_some (R.ob e q) w'
    rw [hs a u hu, hu]⟩⟩
theorem Rel.new (R : Rel ω K r M H) {p : Addr} {u : HO} (h : H p = none) : Rel ω K r M (upd H p u) := R.same (Same.new h)
theorem snoc_at {α : Type} {l : List α} {x y : α} {i : Nat} (e : (l ++ [x])[i]? = some y) : (i < l.length ∧ l[i]? = some y) ∨ (i = l.length ∧ y = x) := by
  by_cases hi : i < l.length
  · rw [List.getElem?_append_left hi] at e
    exact .inl ⟨hi, e⟩
  · have hl := (List.getElem?_eq_some_iff.mp e).1
    rw [List.length_append] at hl
    have hi' : i = l.length := by simp at hl; omega
    subst hi'
    rw [List.getElem?_append_right (Nat.le_refl _)] at e
    exact .inr ⟨rfl, by simpa using e.symm⟩
theorem Rel.alloc (R : Rel ω K r M H) {p : Addr} {u : HO} {o : MO} (h : H p = none) (wo : o.wr = true) (ho : RO ω K (r ++ [(p, true)]) (upd H p u) p o) : Rel ω K (r ++ [(p, true)]) (M ++ [o]) (upd H p u) := by
  have fresh : ∀ {i : Nat} {a : Addr}, r[i]? = some (a, true) → a ≠ p := fun {i a} q => by
    obtain ⟨u', hu, _⟩ := R.live q
    exact ne_of_none hu h
  refine ⟨by simp [R.len], fun i j a q1 q2 => ?_, fun i o' a w e q => ?_⟩
  · rcases snoc_at q1 with ⟨h1, z1⟩ | ⟨h1, z1⟩
    · rcases snoc_at q2 with ⟨h2, z2⟩ | ⟨h2, z2⟩
      · exact R.nd i j a z1 z2
      · cases z2
        exact absurd rfl (fresh z1)
    · rcases snoc_at q2 with ⟨h2, z2⟩ | ⟨h2, z2⟩
      · cases z1
        exact absurd rfl (fresh z2)
      · omega
  · rcases snoc_at e with ⟨h1, z1⟩ | ⟨h1, z1⟩
    · rcases snoc_at q with ⟨h2, z2⟩ | ⟨h2, z2⟩
      · obtain ⟨k1, k2⟩ := R.obj i o' a w z1 z2
        exact ⟨k1, k2.mono (List.prefix_append _ _) (Ext.new h) fun w1 => upd_ne (fresh (by rw [← w1, ← k1]; exact z2))⟩
      · rw [R.len] at h2
        omega
    · rcases snoc_at q with ⟨h2, z2⟩ | ⟨h2, z2⟩
      · rw [R.len] at h2
        omega
      · cases z2
        subst z1
        exact ⟨wo.symm, ho⟩
theorem Rel.set (R : Rel ω K r M H) {i : Nat} {a : Addr} {o' : MO} {u : HO} (w' : o'.wr = true) (q : r[i]? = some (a, true)) (ho : RO ω K r (upd H a u) a o') : Rel ω K r (M.set i o') (upd H a u) := by
  obtain ⟨u0, hu, hs⟩ := R.live q
  obtain ⟨o, e⟩ := R.objOf q
  have hi : i < M.length := (List.getElem?_eq_some_iff.mp e).1
  refine ⟨by rw [List.length_set]; exact R.len, R.nd, fun j x b w e1 q1 => ?_⟩
  by_cases hj : j = i
  · subst hj
    rw [List.getElem?_set_self hi] at e1
    rw [q] at q1
    cases e1
    cases q1
    exact ⟨w'.symm, ho⟩
  · rw [List.getElem?_set_ne (Ne.symm hj)] at e1
    obtain ⟨k1, k2⟩ := R.obj j x b w e1 q1
    refine ⟨k1, k2.mono List.prefix_rfl (Ext.upd hu hs) fun w1 => upd_ne fun z => ?_⟩
    subst z
    rw [k1, w1] at q1
    exact hj (R.nd j i b q1 q)
end
theorem heap_at (a : Addr) (o : Obj) (ho : ∀ c d sl, o ≠ ⟨c, d, .freed, sl⟩) : ∃ h : Heap, h.get? a = some o := by
  refine ⟨{ objs := Array.replicate (a + 1) o }, ?_⟩
  have e : (Array.replicate (a + 1) o)[a]? = some o := by simp
  unfold Heap.get?
  show (match (Array.replicate (a + 1) o)[a]? with | some ⟨_, _, .freed, _⟩ => none | o => o) = some o
  rw [e]
  obtain ⟨c, d, dt, sl⟩ := o
  cases dt <;> first | rfl | exact absurd rfl (ho _ _ _)
theorem dct_code {ω : World} {a b : Addr} {ep : Nat} {xs : List DE} {q : Str} (h : DctO ω a ep xs = LamX.CodeO b q) (hab : a = b) : False := by
  subst hab
  have e : (fun h : Heap => (a == sysModules) = false ∧ xs.length ≤ sizeLine ∧ ∃ o es, h.get? a = some o ∧ o.ExactDict ∧ o.data = .dict es ep ∧ es.toList = xs.map (entA ω)) = fun h => ∃ (oc : Obj) (vs : Array Value) (t : Tok), h.get? a = some oc ∧ oc.data = .fields vs ∧ vs[1]? = some (.str q t) := by
    unfold DctO LamX.CodeO at h
    exact HO.ext.inj h
  obtain ⟨h0, h1⟩ := heap_at a { cls := .type "code", data := .fields #[.none, .str q 0] } (fun _ _ _ z => by cases z)
  have z := congrFun e h0
  obtain ⟨_, _, o, es, k1, _, k2, _⟩ := z.mpr ⟨_, _, 0, h1, rfl, rfl⟩
  rw [h1] at k1
  cases k1
  cases k2
structure Ow (p : Addr) (o : HO) : Prop where
  stb : Stb o = false
  tb : ∀ ps, o ≠ .tbl ps
  co : ∀ q, o ≠ LamX.CodeO p q
theorem ow_lst {p : Addr} {xs : List V} : Ow p (.lst xs) := ⟨rfl, (fun _ z => by cases z), (fun _ z => by cases z)⟩
theorem ow_dct {p : Addr} {ω : World} {ep : Nat} {xs : List DE} : Ow p (DctO ω p ep xs) := ⟨rfl, (fun _ z => by cases z), fun _ z => dct_code z rfl⟩
abbrev TBT := List (Addr × Str)
def TabR (r : RA) (H : Hp) (p : Addr) (q : Str) : Prop := (p, true) ∉ r ∧ ∃ ps : Array Value, H p = some (.tbl ps) ∧ TriplesOk ps.toList ∧ ∀ (pos : Pos) (cv : Value), codeAmong pos ps.toList = some cv → ∃ c, cv = .ref c ∧ H c = some (LamX.CodeO c q) ∧ (c, true) ∉ r
def TabsR (τ : TBT) (r : RA) (H : Hp) : Prop := ∀ p, p ∈ τ → TabR r H p.1 p.2
structure Fx (τ : TBT) (r : RA) (H : Hp) (r' : RA) (H' : Hp) : Prop where
  pre : r <+: r'
  ext : Ext H H'
  frm : ∀ a u, H a = some u → (∀ ps, u ≠ .tbl ps) → (a, true) ∉ r → H' a = some u ∧ (a, true) ∉ r'
  tab : TabsR τ r H → TabsR τ r' H'
theorem TabR.keep {r r' : RA} {H H' : Hp} {p : Addr} {q : Str} (h : TabR r H p q) (k : ∀ a u, H a = some u → (a, true) ∉ r → H' a = some u ∧ (a, true) ∉ r') : TabR r' H' p q := by
  obtain ⟨n, ps, e, t, c⟩ := h
  refine ⟨(k p _ e n).2, ps, (k p _ e n).1, t, fun pos cv z => ?_⟩
  obtain ⟨a, e1, e2, e3⟩ := c pos cv z
  exact ⟨a, e1, (k a _ e2 e3).1, (k a _ e2 e3).2⟩
section
variable {τ : TBT}
theorem Fx.mk' {r r' : RA} {H H' : Hp} (p : r <+: r') (x : Ext H H') (k : ∀ a u, H a = some u → (a, true) ∉ r → H' a = some u ∧ (a, true) ∉ r') : Fx τ r H r' H' :=
  ⟨p, x, fun a u e _ n => k a u e n, fun t b hb => (t b hb).keep k⟩
theorem Fx.refl (r : RA) (H : Hp) : Fx τ r H r H := Fx.mk' List.prefix_rfl (Ext.refl H) fun _ _ h n => ⟨h, n⟩
theorem Fx.trans {r r1 r2 : RA} {H H1 H2 : Hp} (a : Fx τ r H r1 H1) (b : Fx τ r1 H1 r2 H2) : Fx τ r H r2 H2 :=
  ⟨a.pre.trans b.pre, a.ext.trans b.ext, fun c u h z n => let ⟨h1, n1⟩ := a.frm c u h z n; b.frm c u h1 z n1, fun t => b.tab (a.tab t)⟩
theorem Fx.same {r : RA} {H H' : Hp} (h : Same H H') : Fx τ r H r H' := Fx.mk' List.prefix_rfl (Ext.same h) fun a u e n => ⟨h a u e, n⟩
theorem Fx.new {r : RA} {H : Hp} {p : Addr} {o : HO} (h : H p = none) : Fx τ r H r (upd H p o) := Fx.same (Same.new h)
theorem Fx.alloc {r : RA} {H : Hp} {p : Addr} {o : HO} (h : H p = none) : Fx τ r H (r ++ [(p, true)]) (upd H p o) :=
  Fx.mk' (List.prefix_append _ _) (Ext.new h) fun a u e n => ⟨Same.new h a u e, fun z => by
    rcases List.mem_append.mp z with z | z
    · exact n z
    · have z' := List.mem_singleton.mp z
      cases z'
      rw [h] at e
      cases e⟩
theorem Fx.upd {r : RA} {H : Hp} {p : Addr} {o u : HO} (h : H p = some o) (n : Stb o = false) (hp : (p, true) ∈ r) : Fx τ r H r (upd H p u) :=
  Fx.mk' List.prefix_rfl (Ext.upd h n) fun a w e na => ⟨by rw [upd_ne (fun z => na (by rw [z]; exact hp))]; exact e, na⟩
end
def Then (τ : TBT) (ω : World) (K : PySem.W.Frag) (r : RA) (H : Hp) (d : D) (M' : List MO) (Q : VK) : Prop :=
  ∀ r' H' v, Fx τ r H r' H' → Rel ω K r' M' H' → Rep K r' H' d v → Q v H'
section
variable {τ : TBT} {ω : World} {K : PySem.W.Frag} {r : RA} {H : Hp} {M : List MO} {d : D} {v : V} {Q : VK}
theorem Then.self (T : Then τ ω K r H d M Q) (R : Rel ω K r M H) (h : Rep K r H d v) : Q v H := T r H v (Fx.refl r H) R h
theorem Then.lst {xs : List D} {vs : List V} (T : Then τ ω K r H (.ref M.length) (M ++ [.lst true xs]) Q) (R : Rel ω K r M H) (h : RepL K r H xs vs) (p : Addr) (hp : H p = none) : Q (.ref p) (upd H p (.lst vs)) :=
  T (r ++ [(p, true)]) _ _ (Fx.alloc hp) (R.alloc hp rfl ⟨vs, upd_same, RepL.mono (List.prefix_append _ _) (Ext.new hp) xs vs h⟩) ⟨p, true, by rw [← R.len]; simp, rfl⟩
theorem Then.tup {xs : List D} {vs : List V} (T : Then τ ω K r H (.tup xs) M Q) (R : Rel ω K r M H) (h : RepL K r H xs vs) (p : Addr) (hp : H p = none) : Q (.ref p) (upd H p (.tup vs)) :=
  T r _ _ (Fx.new hp) (R.new hp) ⟨p, vs, rfl, SqT.of upd_same, RepL.mono List.prefix_rfl (Ext.new hp) xs vs h⟩
end
end PV
set_option Elab.async false
set_option linter.all false
set_option autoImplicit false
set_option maxRecDepth 100000
set_option maxHeartbeats 1000000
namespace PV
open PySem PySem.Spec PyProof.Rows L2
variable {τ : TBT}
theorem sizeOk_le {n : Nat} (h : sizeOk n = true) : n ≤ sizeLine := of_decide_eq_true h
theorem mulOk_ok {i j : Int} (h : mulOk i j = true) : IntMulOk i j := by
  unfold mulOk at h
  simp only [Bool.or_eq_true, decide_eq_true_eq] at h
  rcases h with (h | h) | h
  · exact CMulW.ok h
  · exact CMul.ok (.inl (by omega))
  · exact CMul.ok (.inr (by omega))
section
variable {X : Cx}
theorem tuple_mul1 (l : Addr) (items : Array Value) (n : Nat) (dd : Option Addr) (sl : Array (Option Value)) (x : Int) (u : Tok) (c0 : (decide (x < -(2 ^ 63)) || decide (x ≥ 2 ^ 63)) = false) (c1 : (items.isEmpty || x == 1) = true) :
    Meets (Builtin.«tuple.__mul__» ⟨[.ref l, .int x u], []⟩) (fun _ R s => s.heap.get? l = some { cls := .type "tuple", dict := dd, data := .seq items n, slots := sl } ∧
      R (.ok (.ret (Value.ref l))) s) :=
  .of_wp fun prog w A R s h => by
    obtain ⟨hp, g, d, tk, os⟩ := s
    obtain ⟨hl, h⟩ := h
    have f1 := AutoSeq1.idx_int
    wp_walk using AutoSeq1.wpAny_loadPart' hl
    repeat (first
      | (refine wpAny_ite_false (decide_eq_false (by rw [c0]; exact Bool.false_ne_true)) ?_; wp_walk using AutoSeq1.wpAny_loadPart' hl)
      | (refine wpAny_ite_true (decide_eq_true (by rw [c1])) ?_; wp_walk using AutoSeq1.wpAny_loadPart' hl))
    exact ⟨_, rfl, h⟩
theorem tuple_mul0 (l : Addr) (items : Array Value) (n : Nat) (dd : Option Addr) (sl : Array (Option Value)) (x : Int) (u : Tok) (c0 : (decide (x < -(2 ^ 63)) || decide (x ≥ 2 ^ 63)) = false) (c1 : (items.isEmpty || x == 1) = false) (c2 : (decide (x ≤ 0) || items.isEmpty) = true) :
    Meets (Builtin.«tuple.__mul__» ⟨[.ref l, .int x u], []⟩) (fun _ R s => s.heap.get? l = some { cls := .type "tuple", dict := dd, data := .seq items n, slots := sl } ∧
      R (.ok (.ret (Value.ref s.heap.objs.size))) { s with heap := s.heap.push { cls := Value.type "tuple", data := Data.seq #[] }, toks := s.toks }) :=
  .of_wp fun prog w A R s h => by
    obtain ⟨hp, g, d, tk, os⟩ := s
    obtain ⟨hl, h⟩ := h
    have f1 := AutoSeq1.idx_int
    wp_walk using AutoSeq1.wpAny_loadPart' hl
    repeat (first
      | (refine wpAny_ite_false (decide_eq_false (by rw [c0]; exact Bool.false_ne_true)) ?_; wp_walk using AutoSeq1.wpAny_loadPart' hl)
      | (refine wpAny_ite_false (decide_eq_false (by rw [c1]; exact Bool.false_ne_true)) ?_; wp_walk using AutoSeq1.wpAny_loadPart' hl)
      | (refine wpAny_ite_true (decide_eq_true (by rw [c2])) ?_; wp_walk using AutoSeq1.wpAny_loadPart' hl))
    exact ⟨_, rfl, h⟩
def rRepA (K : PySem.W.Frag) : R2 := fun x y H Q => ∃ l k xs, x = .ref l ∧ y = .int k ∧ SqT K H l xs ∧ xs ≠ [] ∧ 0 ≤ k ∧ k ≤ 1000 ∧ xs.length ≤ 1000 ∧
  (k = 1 → Q (.ref l) H) ∧ (k ≠ 1 → ∀ p, H p = none → Q (.ref p) (upd H p (.tup (List.replicate k.toNat xs).flatten)))
theorem op_repA : OpR X (binaryOp .Mult) (rRepA X.K) := by
  intro pins s σ H x y v u Q I rx ry h
  obtain ⟨l, k, xs, rfl, rfl, hT, hne, h1, h2, hz, q1, q2⟩ := h
  by_cases k2 : 2 ≤ k
  · exact op_repT pins s σ H _ _ v u Q I rx ry ⟨l, k, xs, rfl, rfl, hT, hne, k2, h2, hz, q2 (by omega)⟩
  cases rx
  obtain ⟨t, rfl⟩ := ry
  obtain ⟨its, r, ⟨⟨cls, dd, data, sl⟩, ho, hc, n, hd⟩, hs⟩ := I.tuple hT
  simp only at hc hd
  subst hc hd
  have hle : its.length = xs.length := r.length.symm
  have hn : its ≠ [] := fun e => hne (by
    rw [e] at hle
    exact List.eq_nil_of_length_eq_zero hle.symm)
  have hi : its.toArray.isEmpty = false := by
    cases its with
    | nil => exact absurd rfl hn
    | cons a b => rfl
  have c0 : (decide (k < -(2 ^ 63)) || decide (k ≥ 2 ^ 63)) = false := by
    rw [decide_eq_false (by omega), decide_eq_false (by omega)] <;> rfl
  by_cases k1 : k = 1
  · subst k1
    have c1 : (its.toArray.isEmpty || (1 : Int) == 1) = true := by rw [hi]; rfl
    exact wpAny_binaryOp_repeat_ref (T := "tuple") (U := "int") (by decide) ⟨_, ho, rfl⟩ (fun s' => typeIs_int s' 1 t) noFill_tuple_mul F.fills_int_mul F.slot_int_rmul repeat_tuple F.slot_int_index.lookup
      (call_meets F.slot_int_rmul (typeIs_int s 1 t) F.entry_int_rmul (F.args_int_rmul_2 _ _) (int_rmul_tuple 1 t l its.toArray n dd sl)
        ⟨ho, rfl, ⟨_, ho, rfl⟩, call_meets F.slot_tuple_mul ⟨_, ho, rfl⟩ F.entry_tuple_mul (F.args_tuple_mul_2 _ _) (tuple_mul1 l its.toArray n dd sl 1 t c0 c1) ⟨ho, ⟨.ref l, H, I, rfl, q1 rfl⟩⟩⟩)
  · have k0 : k = 0 := by omega
    subst k0
    have c1 : (its.toArray.isEmpty || (0 : Int) == 1) = false := by rw [hi]; rfl
    have c2 : (decide ((0 : Int) ≤ 0) || its.toArray.isEmpty) = true := by rw [hi]; rfl
    refine wpAny_binaryOp_repeat_ref (T := "tuple") (U := "int") (by decide) ⟨_, ho, rfl⟩ (fun s' => typeIs_int s' 0 t) noFill_tuple_mul F.fills_int_mul F.slot_int_rmul repeat_tuple F.slot_int_index.lookup
      (call_meets F.slot_int_rmul (typeIs_int s 0 t) F.entry_int_rmul (F.args_int_rmul_2 _ _) (int_rmul_tuple 0 t l its.toArray n dd sl)
        ⟨ho, rfl, ⟨_, ho, rfl⟩, call_meets F.slot_tuple_mul ⟨_, ho, rfl⟩ F.entry_tuple_mul (F.args_tuple_mul_2 _ _) (tuple_mul0 l its.toArray n dd sl 0 t c0 c1 c2) ⟨ho, ?_⟩⟩)
    have hf : H s.heap.objs.size = none := I.hok.fresh (Nat.le_refl _)
    refine ⟨.ref s.heap.objs.size, upd H s.heap.objs.size (.tup []), I.laid (t' := s.toks) (fun b u e => Heap.get?_push_of_some _ e) (Nat.le_refl _) ?_, rfl, q2 k1 _ hf⟩
    exact ⟨Nat.zero_le _, [], .nil, ⟨_, Heap.get?_push_size _ rfl, rfl, _, rfl⟩⟩
def B2.op : B2 → Operator
  | .add => .Add
  | .sub => .Sub
  | .mul => .Mult
  | .fdiv => .FloorDiv
  | .mod => .Mod
  | .pow => .Pow
def rB (τ : TBT) (ω : World) (K : PySem.W.Frag) (o : B2) : R2 := fun x y H Q => ∃ (b : List MO) (s s' : HS b) (r : RA) (dx dy d : D), Rel ω K r s.M H ∧ Rep K r H dx x ∧ Rep K r H dy y ∧ bin o dx dy s = some (.ok d s') ∧ Then τ ω K r H d s'.M Q
theorem bin_noex {b : List MO} {o : B2} {x y : D} {s : HS b} {c : Nat} {fs : List (Str × D)} {s' : HS b} (h : bin o x y s = some (.ex c fs s')) : False := by
  cases o <;> cases x <;> cases y <;> simp only [bin, ret] at h <;> first | cases h | (split at h <;> first | cases h | (split at h <;> cases h))
theorem add_tuples {ω : World} {K : PySem.W.Frag} {r : RA} {H : Hp} {M : List MO} {xs ys : List D} {x y : V} {Q : VK} (R : Rel ω K r M H) (hx : Rep K r H (.tup xs) x) (hy : Rep K r H (.tup ys) y) (hz : xs.length + ys.length ≤ sizeLine) (T : Then τ ω K r H (.tup (xs ++ ys)) M Q) : rCatA K x y H Q := by
  obtain ⟨a, vs, rfl, q1, t1⟩ := hx
  obtain ⟨c, ws, rfl, q2, t2⟩ := hy
  refine ⟨a, c, vs, ws, rfl, rfl, q1, q2, by rw [t1.length, t2.length]; exact hz, fun e => ?_, fun _ e => ?_, fun _ _ p hp => ?_⟩
  · subst e
    have e : xs = [] := List.eq_nil_of_length_eq_zero (by rw [← t1.length]; rfl)
    subst e
    exact T.self R ⟨c, ws, rfl, q2, t2⟩
  · subst e
    have e : ys = [] := List.eq_nil_of_length_eq_zero (by rw [← t2.length]; rfl)
    subst e
    rw [List.append_nil] at T
    exact T.self R ⟨a, vs, rfl, q1, t1⟩
  · exact T.tup R (t1.app t2) p hp
theorem op_bin {ω : World} (o : B2) : OpR X (binaryOp o.op) (rB τ ω X.K o) := by
  intro pins s σ H x y v u Q I rx ry h
  obtain ⟨b, hs, hs', r, dx, dy, d, R, hx, hy, e, T⟩ := h
  cases o with
  | add =>
    cases dx <;> cases dy <;> simp only [bin, ret] at e <;> try (cases e; done)
    case int.int i j =>
      cases e; cases hx; cases hy
      exact op_add pins s σ H _ _ v u Q I rx ry ⟨i, j, rfl, rfl, T.self R rfl⟩
    case str.str i j =>
      split at e
      · rename_i z
        cases e; cases hx; cases hy
        exact op_add_str pins s σ H _ _ v u Q I rx ry ⟨i, j, rfl, rfl, sizeOk_le z, T.self R rfl⟩
      · cases e
    case tup.tup xs ys =>
      split at e
      · rename_i z
        cases e
        exact op_catA pins s σ H _ _ v u Q I rx ry (add_tuples R hx hy (sizeOk_le z) T)
      · cases e
    case ref.ref p q =>
      split at e
      · rename_i xs ys e1 e2
        split at e
        · rename_i z
          cases e
          obtain ⟨a, wa, ha, rfl⟩ := hx
          obtain ⟨c, wc, hc, rfl⟩ := hy
          obtain ⟨vs, v1, v2⟩ := R.ob e1 ha
          obtain ⟨ws, w1, w2⟩ := R.ob e2 hc
          exact op_cat pins s σ H _ _ v u Q I rx ry ⟨a, c, vs, ws, rfl, rfl, v1, w1, by rw [v2.length, w2.length]; exact sizeOk_le z, fun p hp => T.lst R (v2.app w2) p hp⟩
        · cases e
      · cases e
  | sub =>
    cases dx <;> cases dy <;> simp only [bin, ret] at e <;> try (cases e; done)
    case int.int i j =>
      cases e; cases hx; cases hy
      exact op_sub pins s σ H _ _ v u Q I rx ry ⟨i, j, rfl, rfl, T.self R rfl⟩
  | mul =>
    cases dx <;> cases dy <;> simp only [bin, ret] at e <;> try (cases e; done)
    case int.int i j =>
      split at e
      · rename_i z
        cases e; cases hx; cases hy
        have h : OpR X (binaryOp .Mult) (rI (fun i j => mulOk i j = true) fun i j => .int (i * j)) := opI fun _ _ _ _ _ _ _ hc q => mul_int q (mulOk_ok hc)
        exact h pins s σ H _ _ v u Q I rx ry ⟨i, j, rfl, rfl, z, T.self R rfl⟩
      · cases e
    case tup.int xs k =>
      split at e
      · rename_i z
        cases e
        simp only [Bool.and_eq_true, decide_eq_true_eq, Bool.not_eq_true'] at z
        obtain ⟨⟨⟨z1, z2⟩, z3⟩, z4⟩ := z
        obtain ⟨a, vs, rfl, q1, t1⟩ := hx
        cases hy
        have hne : vs ≠ [] := fun e => by
          subst e
          have e : xs = [] := List.eq_nil_of_length_eq_zero (by rw [← t1.length]; rfl)
          rw [e] at z1
          cases z1
        refine op_repA pins s σ H _ _ v u Q I rx ry ⟨a, k, vs, rfl, rfl, q1, hne, z2, z3, by rw [t1.length]; exact z4, fun e => ?_, fun _ p hp => T.tup R (t1.rep _) p hp⟩
        subst e
        have e1 : (List.replicate (1 : Int).toNat xs).flatten = xs := by simp
        rw [e1] at T
        exact T.self R ⟨a, vs, rfl, q1, t1⟩
      · cases e
  | fdiv =>
    cases dx <;> cases dy <;> simp only [bin, ret] at e <;> try (cases e; done)
    case int.int i j =>
      split at e
      · rename_i z
        cases e; cases hx; cases hy
        have h : OpR X (binaryOp .FloorDiv) (rI (fun _ j => divOk j = true) fun i j => .int (i.fdiv j)) := opI fun _ _ _ _ _ _ _ hc q => by
          unfold divOk at hc
          simp only [Bool.and_eq_true, decide_eq_true_eq] at hc
          exact floordiv_int hc.1 q (.inl (PyProof.noPylong_of_log2 hc.2))
        exact h pins s σ H _ _ v u Q I rx ry ⟨i, j, rfl, rfl, z, T.self R rfl⟩
      · cases e
  | mod =>
    cases dx <;> cases dy <;> simp only [bin, ret] at e <;> try (cases e; done)
    case int.int i j =>
      split at e
      · rename_i z
        cases e; cases hx; cases hy
        exact op_modN pins s σ H _ _ v u Q I rx ry ⟨i, j, rfl, rfl, of_decide_eq_true z, T.self R rfl⟩
      · cases e
  | pow =>
    cases dx <;> cases dy <;> simp only [bin, ret] at e <;> try (cases e; done)
    case int.int i j =>
      split at e
      · rename_i z
        cases e; cases hx; cases hy
        simp only [Bool.and_eq_true, decide_eq_true_eq] at z
        exact op_pow pins s σ H _ _ v u Q I rx ry ⟨i, j, rfl, rfl, ⟨z.1.1, z.1.2, z.2⟩, T.self R rfl⟩
      · cases e
end
end PV
set_option Elab.async false
set_option linter.all false
set_option autoImplicit false
set_option maxRecDepth 100000
set_option maxHeartbeats 1000000
namespace PV
open PySem PySem.Spec PyProof.Rows L2
section
variable {X : Cx} {pins : List (Addr × Obj)} {σ : L2.St} {H : Hp} {s : Shared} {r : RA}
mutual
theorem key_is (I : Inv X pins σ H s) : ∀ (d : D) (v : V) (u : Value), kI d = true → Rep X.K r H d v → RelV v u → NestedIs s.heap (kD d) u
  | .non, v, u, _, h, q => by
    cases h
    cases q
    exact .none
  | .bl b, v, u, _, h, q => by
    cases h
    cases q
    exact .bool rfl
  | .int i, v, u, _, h, q => by
    cases h
    obtain ⟨t, rfl⟩ := q
    exact .int i t
  | .str x, v, u, _, h, q => by
    cases h
    obtain ⟨t, rfl⟩ := q
    exact .text x t
  | .tup xs, v, u, k, h, q => by
    obtain ⟨a, vs, rfl, hs, t⟩ := h
    cases q
    obtain ⟨its, r1, ⟨o, h1, h2, n, h3⟩, _⟩ := I.tuple hs
    exact .tup h1 h2 h3 (by simpa using keys_is I xs vs its (by simpa [kI] using k) t r1)
  | .ref i, _, _, k, _, _ => by simp [kI] at k
  | .fn x, _, _, k, _, _ => by simp [kI] at k
theorem keys_is (I : Inv X pins σ H s) : ∀ (ds : List D) (vs : List V) (us : List Value), kIL ds = true → RepL X.K r H ds vs → Vals vs us → NestedAll s.heap (kDL ds) us
  | [], vs, us, _, h, q => by
    cases (show vs = [] from h)
    cases q
    exact .nil
  | d :: ds, vs, us, k, h, q => by
    obtain ⟨v, vr, rfl, h1, h2⟩ := h
    cases q with
    | cons q1 q2 =>
      have k' : kI d = true ∧ kIL ds = true := by simpa [kIL] using k
      exact .cons (key_is I d v _ k'.1 h1 q1) (keys_is I ds vr _ k'.2 h2 q2)
end
theorem key_at (I : Inv X pins σ H s) {d : D} {v : V} {u : Value} (k : kOk d = true) (h : Rep X.K r H d v) (q : RelV v u) : KAt s.heap (kD d) u := by
  simp only [kOk, Bool.and_eq_true, decide_eq_true_eq] at k
  exact ⟨key_is I d v u k.1 h q, k.2⟩
theorem kv_at (I : Inv X pins σ H s) : ∀ (kvs : KV) (xs : List DE), RepKV X.K r H kvs xs → ∀ x ∈ xs, KAt s.heap x.1 x.2.1
  | [], xs, h, x, hx => by
    rw [show xs = [] from h] at hx
    cases hx
  | p :: ps, xs, h, x, hx => by
    obtain ⟨y, yr, rfl, h1, h2, ⟨v, h3, h4⟩, _, h7⟩ := h
    rcases List.mem_cons.mp hx with rfl | hx
    · rw [h2]
      exact key_at I h1 h4 h3
    · exact kv_at I ps yr h7 x hx
theorem dct_x {a : Addr} {ep : Nat} {xs : List DE} {kvs : KV} (I : Inv X pins σ H s) (h : H a = some (DctO X.w a ep xs)) (n : (xs.map (·.1)).Nodup) (t : RepKV X.K r H kvs xs) : DictX X.w s.heap a ep xs ∧ (a == sysModules) = false ∧ xs.length ≤ sizeLine := by
  obtain ⟨⟨h1, h2, o, es, h3, h4, h5, h6⟩, _⟩ := I.hok a _ h
  exact ⟨⟨o, es, h3, h4, h5, h6, kv_at I kvs xs t, n⟩, h1, h2⟩
theorem dct_ok {P : Program} {w : World} {H' : Hp} {h' : Heap} {a : Addr} {ep : Nat} {xs : List DE} (hs : (a == sysModules) = false) (hz : xs.length ≤ sizeLine) (D : DictX w h' a ep xs) : ObjOk P w H' h' a (DctO w a ep xs) := by
  obtain ⟨o, es, D⟩ := D
  refine ⟨⟨hs, hz, o, es, D.ho, D.hc, D.hd, D.he⟩, ⟨o, D.ho⟩, fun h1 h2 ⟨k1, k2, o1, es1, k3, k4, k5, k6⟩ hk => ⟨k1, k2, o1, es1, hk _ k3, k4, k5, k6⟩⟩
theorem dct_set {a : Addr} {ep ep' : Nat} {xs xs' : List DE} {h' : Heap} {t' : Nat} (I : Inv X pins σ H s) (h : H a = some (DctO X.w a ep xs)) (hs : (a == sysModules) = false) (hz : xs'.length ≤ sizeLine) (D : DictX X.w h' a ep' xs') (sb : Heap.SameBut a s.heap h') :
    Inv X pins σ (upd H a (DctO X.w a ep' xs')) { s with heap := h', toks := t' } := by
  obtain ⟨o, es, D'⟩ := id D
  exact I.write (by rw [h]; trivial) (.inl rfl) (fun b u hb e => (sb.2 b hb).trans e) ⟨o, D'.ho⟩ (dct_ok hs hz D)
theorem dct_new (I : Inv X pins σ H s) {a : Addr} {ep : Nat} {xs : List DE} {h' : Heap} {t' : Nat} (k : ∀ b u, s.heap.get? b = some u → h'.get? b = some u) (hp : s.heap.objs.size ≤ a) (hz : xs.length ≤ sizeLine) (D : DictX X.w h' a ep xs) :
    Inv X pins σ (upd H a (DctO X.w a ep xs)) { s with heap := h', toks := t' } := by
  refine I.laid k hp (dct_ok ?_ hz D)
  have := I.big
  rw [beq_eq_false_iff_ne]
  intro z
  subst z
  exact absurd hp (Nat.not_le_of_lt this)
end
section
variable {X : Cx}
theorem pe_dnewX {pos : Pos} : PE X (.Dict [] [] pos) (fun _ H Q => ∀ p, H p = none → Q (.ref p) (upd H p (DctO X.w p 0 []))) := ⟨fun pins s σ H Q I h => by
  have D : DictX X.w (s.heap.push { cls := .type "dict", data := .dict #[] }) s.heap.objs.size 0 [] := ⟨_, #[], Heap.get?_push_size _ rfl, ⟨rfl, rfl, rfl⟩, rfl, rfl, (fun _ hx => by cases hx), List.nodup_nil⟩
  exact wpAny_Dict_empty ⟨.ref s.heap.objs.size, _, dct_new I (t' := s.toks) (fun _ _ q => Heap.get?_push_of_some _ q) (Nat.le_refl _) (Nat.zero_le _) D, rfl, h _ (I.hok.fresh (Nat.le_refl _))⟩⟩
theorem op_dIn {ω : World} (hw : ω = X.w) (hu : X.A.units + 128 < cLine) (neg : Bool) : OpR X (compareOp (if neg then .NotIn else .In)) (fun x y H Q => ∃ (r : RA) (k : D) (a : Addr) (ep : Nat) (xs : List DE) (kvs : KV), y = .ref a ∧ kOk k = true ∧ Rep X.K r H k x ∧ H a = some (DctO ω a ep xs) ∧ (xs.map (·.1)).Nodup ∧ RepKV X.K r H kvs xs ∧ Q (.bl (if neg then !(getK kvs k).isSome else (getK kvs k).isSome)) H) := by
  subst hw
  intro pins s σ H x y v u Q I rx ry h
  obtain ⟨r, k, a, ep, xs, kvs, rfl, hk, rk, ha, n, t, q⟩ := h
  cases ry
  obtain ⟨D, hs, hz⟩ := dct_x I ha n t
  rw [← t.isSome] at q
  cases neg with
  | true => exact notIn_any (by omega) (key_at I hk rk rx) hs D ⟨.bl _, H, I.tok _, rfl, q⟩
  | false => exact in_any (by omega) (key_at I hk rk rx) hs D ⟨.bl _, H, I.tok _, rfl, q⟩
theorem ix_dct {ω : World} (hw : ω = X.w) (hu : X.A.units + 128 < cLine) : IxR X (fun x y H Q => ∃ (r : RA) (k d : D) (a : Addr) (ep : Nat) (xs : List DE) (kvs : KV), x = .ref a ∧ kOk k = true ∧ Rep X.K r H k y ∧ H a = some (DctO ω a ep xs) ∧ (xs.map (·.1)).Nodup ∧ RepKV X.K r H kvs xs ∧ getK kvs k = some d ∧ ∀ v, Rep X.K r H d v → Q v H) := by
  subst hw
  intro value slice pins s σ H x y v u Q I rx ry h hs
  obtain ⟨r, k, d, a, ep, xs, kvs, rfl, hk, rk, ha, n, t, e, q⟩ := h
  cases rx
  obtain ⟨D, hm, hz⟩ := dct_x I ha n t
  obtain ⟨z, w, e1, e2, e3⟩ := t.val e
  exact subscriptTail_builtinR (x := z) D.ty F.slot_dict_getitem.lookup (getItem_any (by omega) (key_at I hk rk ry) D e1 ⟨rfl, w, H, I.tok _, e2, q w e3⟩) hs
theorem op_ltD (hu : X.A.units + 100 < cLine) : OpR X (compareOp .Lt) (fun x y H Q => ∃ a b : PyData, Dp X.K H x a ∧ Dp X.K H y b ∧ PySem.W.alike a b = true ∧ a ≠ .none ∧ a.depth ≤ 64 ∧ Q (.bl (PySem.W.dataLt a b)) H) := by
  intro pins s σ H x y v u Q I rx ry h
  obtain ⟨a, b, h1, h2, h3, h4, h5, q⟩ := h
  obtain ⟨as, r1⟩ := Dp.reads I a x v h1 rx
  obtain ⟨bs, r2⟩ := Dp.reads I b y u h2 ry
  exact PySem.W.lt_data r1 r2 h3 h4 (by omega) ⟨.bl _, H, I, rfl, q⟩
theorem op_gtD (hu : X.A.units + 100 < cLine) : OpR X (compareOp .Gt) (fun x y H Q => ∃ a b : PyData, Dp X.K H x a ∧ Dp X.K H y b ∧ PySem.W.alike a b = true ∧ a ≠ .none ∧ a.depth ≤ 64 ∧ Q (.bl (PySem.W.dataLt b a)) H) := by
  intro pins s σ H x y v u Q I rx ry h
  obtain ⟨a, b, h1, h2, h3, h4, h5, q⟩ := h
  obtain ⟨as, r1⟩ := Dp.reads I a x v h1 rx
  obtain ⟨bs, r2⟩ := Dp.reads I b y u h2 ry
  exact PySem.W.gt_data r1 r2 h3 h4 (by omega) ⟨.bl _, H, I, rfl, q⟩
theorem op_leD (hu : X.A.units + 100 < cLine) : OpR X (compareOp .LtE) (fun x y H Q => ∃ a b : PyData, Dp X.K H x a ∧ Dp X.K H y b ∧ PySem.W.alike a b = true ∧ a ≠ .none ∧ a.depth ≤ 64 ∧ Q (.bl (!PySem.W.dataLt b a)) H) := by
  intro pins s σ H x y v u Q I rx ry h
  obtain ⟨a, b, h1, h2, h3, h4, h5, q⟩ := h
  obtain ⟨as, r1⟩ := Dp.reads I a x v h1 rx
  obtain ⟨bs, r2⟩ := Dp.reads I b y u h2 ry
  exact PySem.W.le_data r1 r2 h3 h4 (by omega) ⟨.bl _, H, I, rfl, q⟩
theorem op_geD (hu : X.A.units + 100 < cLine) : OpR X (compareOp .GtE) (fun x y H Q => ∃ a b : PyData, Dp X.K H x a ∧ Dp X.K H y b ∧ PySem.W.alike a b = true ∧ a ≠ .none ∧ a.depth ≤ 64 ∧ Q (.bl (!PySem.W.dataLt a b)) H) := by
  intro pins s σ H x y v u Q I rx ry h
  obtain ⟨a, b, h1, h2, h3, h4, h5, q⟩ := h
  obtain ⟨as, r1⟩ := Dp.reads I a x v h1 rx
  obtain ⟨bs, r2⟩ := Dp.reads I b y u h2 ry
  exact PySem.W.ge_data r1 r2 h3 h4 (by omega) ⟨.bl _, H, I, rfl, q⟩
theorem call_lenX {ω : World} (hw : ω = X.w) : CallR X (.builtin "len") (fun vs H Q => ∃ (a : Addr) (ep : Nat) (xs : List DE), vs = [.ref a] ∧ H a = some (DctO ω a ep xs) ∧ Q (.int xs.length) H) := by
  subst hw
  intro pins s σ H vs us Q I rs h
  obtain ⟨a, ep, xs, rfl, ha, q⟩ := h
  obtain ⟨u, rfl, ru⟩ := vals1 rs
  cases ru
  obtain ⟨⟨h1, h2, o, es, h3, h4, h5, h6⟩, _⟩ := I.hok a _ ha
  have hl := line63
  have e : es.size = xs.length := ent_size h6
  refine PyProof.Rows.call_len_slot (n := xs.length) ⟨o, h3, h4.1⟩ F.slot_dict_len (fun Q' hq => ?_) (by omega) (by omega) ⟨.int _, H, I.tok _, ⟨_, rfl⟩, q⟩
  refine call_len_raw h1 ⟨o, h3, h4, h5⟩ ?_
  rw [e]
  exact hq
theorem call_isiX {ω : World} (hw : ω = X.w) : CallR X (.builtin "isinstance") (fun vs H Q => ∃ (a : Addr) (ep : Nat) (xs : List DE) (c : V) (u : Value) (b : Bool), vs = [.ref a, c] ∧ H a = some (DctO ω a ep xs) ∧ ClsV c u ∧ PySem.W.kitOne X.K (.type "dict") u = some b ∧ Q (.bl b) H) := by
  subst hw
  intro pins s σ H vs us Q I rs h
  obtain ⟨a, ep, xs, c, u, b, rfl, ha, k, e, q⟩ := h
  obtain ⟨u1, u2, rfl, r1, r2⟩ := vals2 rs
  cases r1
  have e2 := k.eq r2
  subst e2
  obtain ⟨⟨h1, h2, o, es, h3, h4, h5, h6⟩, _⟩ := I.hok a _ ha
  exact PySem.W.kia_one PySem.W.kitx_dict I.kIn ⟨o, h3, h4.1⟩ e (fun z => nomatch z) fun tk => ⟨.bl b, H, I.tok tk, rfl, q⟩
end
end PV
set_option Elab.async false
set_option linter.all false
set_option autoImplicit false
set_option maxRecDepth 100000
set_option maxHeartbeats 1000000
namespace PV
open PySem PySem.Spec PyProof.Rows L2
section
variable {K : PySem.W.Frag} {r : RA} {H : Hp}
theorem RepKV.fold : ∀ {ps : KV} {qs : List DE} {x : Nat × KV} {y : Nat × List DE}, x.1 = y.1 → RepKV K r H x.2 y.2 → RepKV K r H ps qs → (foldK x ps).1 = (foldA y qs).1 ∧ RepKV K r H (foldK x ps).2 (foldA y qs).2
  | [], qs, x, y, e, h, t => by
    rw [show qs = [] from t]
    exact ⟨e, h⟩
  | p :: ps, qs, x, y, e, h, t => by
    obtain ⟨q, qr, rfl, h1, h2, ⟨v, h3, h4⟩, ⟨u, h5, h6⟩, h7⟩ := t
    refine RepKV.fold (x := (epK x.1 x.2 p.1, putK x.2 p.1 p.2)) (y := (epA y.1 y.2 q.1, stA y.2 q.1 q.2.1 q.2.2)) ?_ ?_ h7
    · show epK x.1 x.2 p.1 = epA y.1 y.2 q.1
      rw [h2, e]
      exact (h.ep _).symm
    · show RepKV K r H (putK x.2 p.1 p.2) (stA y.2 q.1 q.2.1 q.2.2)
      rw [h2]
      exact h.put h1 h3 h4 h5 h6
theorem RepKV.keys : ∀ {ps : KV} {qs : List DE}, RepKV K r H ps qs → qs.map (·.1) = ps.map fun p => kD p.1
  | [], qs, t => by rw [show qs = [] from t]; rfl
  | p :: ps, qs, t => by
    obtain ⟨q, qr, rfl, h1, h2, _, _, h7⟩ := t
    rw [List.map_cons, List.map_cons, h2, h7.keys]
end
section
variable {X : Cx} {pins : List (Addr × Obj)} {σ : L2.St} {H : Hp} {s : Shared} {r : RA}
theorem pairs_ok (I : Inv X pins σ H s) : ∀ (ys : List D) (vs : List V) (us : List Value) (kvs : KV), pairsD ys = some kvs → RepL X.K r H ys vs → Vals vs us →
    ∃ (ts : List Addr) (xs : List DE), xs.length = ts.length ∧ us = ts.map Value.ref ∧ RepKV X.K r H kvs xs ∧ ∀ (j : Nat) (t : Addr) (x : DE), ts[j]? = some t → xs[j]? = some x → IsTup s.heap t #[x.2.1, x.2.2]
  | [], vs, us, kvs, e, h, q => by
    cases (show vs = [] from h)
    cases q
    cases e
    exact ⟨[], [], rfl, rfl, rfl, fun j t x z => by simp at z⟩
  | .tup [k, d] :: ys, vs, us, kvs, e, h, q => by
    obtain ⟨v, vr, rfl, h1, h2⟩ := h
    cases q with
    | cons q1 q2 =>
      simp only [pairsD] at e
      split at e
      · rename_i hk
        obtain ⟨kr, e1, e2⟩ := Option.map_eq_some_iff.mp e
        subst e2
        obtain ⟨ts, xs, l1, l2, l3, l4⟩ := pairs_ok I ys vr _ kr e1 h2 q2
        obtain ⟨a, ws, rfl, hs, t⟩ := h1
        cases q1
        obtain ⟨its, r1, ht, _⟩ := I.tuple hs
        obtain ⟨w1, wr, rfl, t1, w2, wr2, rfl, t2, t3⟩ := t
        cases (show wr2 = [] from t3)
        obtain ⟨u1, u2, rfl, ru1, ru2⟩ := vals2 r1
        refine ⟨a :: ts, (kD k, u1, u2) :: xs, by simp [l1], by rw [l2]; rfl, ⟨_, _, rfl, hk, rfl, ⟨w1, ru1, t1⟩, ⟨w2, ru2, t2⟩, l3⟩, fun j t x z1 z2 => ?_⟩
        cases j with
        | zero =>
          cases z1
          cases z2
          exact ht
        | succ j => exact l4 j t x (by simpa using z1) (by simpa using z2)
      · cases e
  | .non :: _, _, _, _, e, _, _ => by cases e
  | .bl _ :: _, _, _, _, e, _, _ => by cases e
  | .int _ :: _, _, _, _, e, _, _ => by cases e
  | .str _ :: _, _, _, _, e, _, _ => by cases e
  | .ref _ :: _, _, _, _, e, _, _ => by cases e
  | .fn _ :: _, _, _, _, e, _, _ => by cases e
  | .tup [] :: _, _, _, _, e, _, _ => by cases e
  | .tup [_] :: _, _, _, _, e, _, _ => by cases e
  | .tup (_ :: _ :: _ :: _) :: _, _, _, _, e, _, _ => by cases e
end
section
variable {X : Cx}
theorem cr_dictL {ω : World} (hw : ω = X.w) (hc : X.calm = true) (hu : X.A.units + 128 < cLine) : CallR X (.type "dict") (fun vs H Q => ∃ (r : RA) (a : Addr) (ws : List V) (ys : List D) (ps : KV), vs = [.ref a] ∧ SqL X.K H a ws ∧ RepL X.K r H ys ws ∧ pairsD ys = some ps ∧ ps.length ≤ sizeLine ∧
    ∀ p xs, H p = none → (xs.map (·.1)).Nodup → RepKV X.K r H (foldK (0, []) ps).2 xs → Q (.ref p) (upd H p (DctO ω p (foldK (0, []) ps).1 xs))) := by
  subst hw
  intro pins s σ H vs us Q I rs h
  obtain ⟨r, a, ws, ys, ps, rfl, hq, t, hp, hl, q⟩ := h
  obtain ⟨u, rfl, ru⟩ := vals1 rs
  cases ru
  obtain ⟨its, ri, hpl, hz⟩ := I.list hq
  obtain ⟨ts, xs, l1, l2, l3, l4⟩ := pairs_ok I ys ws its ps hp t ri
  have ly : xs.length = ps.length := l3.length
  have hkeys := kv_at I ps xs l3
  have hh : X.A.handled = none := I.ok.hd hc
  have PA := PairArg.list (prog := X.prog) (w := X.w) a its.toArray (fun j => ts.getD j 0) (xs.map (·.2))
  have ok : ∀ h' : Heap, (∀ b o, s.heap.get? b = some o → h'.get? b = some o) → PlainSeq "list" h' a its.toArray ∧ PairItems h' its.toArray (fun j => ts.getD j 0) (xs.map (·.2)) := fun h' kp => by
    obtain ⟨o, n, e1, e2, e3, e4⟩ := hpl
    refine ⟨⟨o, n, kp _ _ e1, e2, e3, e4⟩, by rw [List.size_toArray, l2, List.length_map, List.length_map, l1], fun j k v hj => ?_⟩
    rw [List.getElem?_map] at hj
    cases hx : xs[j]? with
    | none => rw [hx] at hj; cases hj
    | some x =>
      rw [hx] at hj
      obtain ⟨nk, k', v'⟩ := x
      cases hj
      have hjl : j < ts.length := by rw [← l1]; exact (List.getElem?_eq_some_iff.mp hx).1
      have ht : ts[j]? = some ts[j] := by simp [hjl]
      have e : ts.getD j 0 = ts[j] := by simp [List.getD, ht]
      refine ⟨by rw [l2]; simp [hjl, e], .inl ?_⟩
      dsimp only
      rw [e]
      obtain ⟨o1, k1, k2, n1, k3⟩ := l4 j _ _ ht hx
      exact ⟨o1, kp _ _ k1, k2, n1, k3⟩
  refine dict_call ?_
  have D0 : DictX X.w (s.heap.push { cls := .type "dict", data := .dict #[] }) s.heap.objs.size 0 [] := ⟨_, #[], Heap.get?_push_size _ rfl, ⟨rfl, rfl, rfl⟩, rfl, rfl, (fun _ hx => by cases hx), List.nodup_nil⟩
  have kp0 : ∀ b o, s.heap.get? b = some o → (s.heap.push { cls := .type "dict", data := .dict #[] }).get? b = some o := fun b o e => Heap.get?_push_of_some _ e
  refine fill_pairs (s := { s with heap := s.heap.push { cls := .type "dict", data := .dict #[] } }) (A := X.A.in1) (ps := xs) (x0 := (0, [])) PA .none hh (by show X.A.units + 1 + 1 + 8 < cLine; omega) (ok _ kp0) (fun hm => ?_) rfl (by rw [List.length_map]) (fun i k v hr => ?_) (fun p hx => (hkeys p hx).keep fun b o _ _ e _ => kp0 b o e) D0 (by
    show 0 + (xs.map (·.2)).length ≤ sizeLine
    rw [List.length_map, ly]
    omega) fun h' tk D' kp => ⟨rfl, ?_⟩
  · obtain ⟨o, ho⟩ := PA.there s.heap (ok _ fun _ _ e => e) _ hm
    exact absurd (Heap.lt_size ho) (Nat.lt_irrefl _)
  · have hr' : (xs.map (·.2))[i]? = some (k, v) := hr
    rw [List.getElem?_map] at hr'
    cases hx : xs[i]? with
    | none => rw [hx] at hr'; cases hr'
    | some x =>
      rw [hx] at hr'
      obtain ⟨nk, k', v'⟩ := x
      cases hr'
      exact ⟨nk, rfl⟩
  · obtain ⟨f1, f2⟩ := RepKV.fold (K := X.K) (r := r) (H := H) (x := (0, [])) (y := (0, [])) rfl rfl l3
    obtain ⟨o', es', DA⟩ := id D'
    have hlen : (foldA (0, []) xs).2.length ≤ sizeLine := by
      have := foldA_len xs (0, [])
      have e : ((0, []) : Nat × List DE).2.length = 0 := rfl
      omega
    refine ⟨.ref s.heap.objs.size, _, dct_new I (t' := tk) (fun b o e => kp b o (Nat.ne_of_lt (Heap.lt_size e)) (kp0 b o e)) (Nat.le_refl _) hlen D', rfl, ?_⟩
    rw [← f1]
    exact q _ _ (I.hok.fresh (Nat.le_refl _)) DA.hn f2
theorem cr_dictD {ω : World} (hw : ω = X.w) : CallR X (.type "dict") (fun vs H Q => ∃ (r : RA) (a : Addr) (ep : Nat) (kvs ks : KV) (e1 : Nat) (xs : List DE), vs = [.ref a] ∧ H a = some (DctO ω a ep xs) ∧ (xs.map (·.1)).Nodup ∧ RepKV X.K r H kvs xs ∧ copyK kvs = some (e1, ks) ∧
    ∀ p ys, H p = none → (ys.map (·.1)).Nodup → RepKV X.K r H ks ys → Q (.ref p) (upd H p (DctO ω p e1 ys))) := by
  subst hw
  intro pins s σ H vs us Q I rs h
  obtain ⟨r, a, ep, kvs, ks, e1, xs, rfl, hD, n, t, hc, q⟩ := h
  obtain ⟨u, rfl, ru⟩ := vals1 rs
  cases ru
  obtain ⟨DX, hs, hz⟩ := dct_x I hD n t
  refine dict_call ?_
  have D0 : DictX X.w (s.heap.push { cls := .type "dict", data := .dict #[] }) s.heap.objs.size 0 [] := ⟨_, #[], Heap.get?_push_size _ rfl, ⟨rfl, rfl, rfl⟩, rfl, rfl, (fun _ hx => by cases hx), List.nodup_nil⟩
  have kp0 : ∀ b o, s.heap.get? b = some o → (s.heap.push { cls := .type "dict", data := .dict #[] }).get? b = some o := fun b o e => Heap.get?_push_of_some _ e
  obtain ⟨o1, es1, DA⟩ := id DX
  have D1 : DictX X.w (s.heap.push { cls := .type "dict", data := .dict #[] }) a ep xs := ⟨o1, es1, kp0 _ _ DA.ho, DA.hc, DA.hd, DA.he, fun x hx => (DA.hk x hx).keep fun b o _ _ e _ => kp0 b o e, DA.hn⟩
  have ne : s.heap.objs.size ≠ a := fun z => absurd (Heap.lt_size DA.ho) (by rw [← z]; exact Nat.lt_irrefl _)
  have fin : ∀ (l : List Int), hshs (xs.map (·.1)) = some l → l.Nodup → (xs = [] ∨ 8 < xs.length ∨ ∃ x ∈ xs, (keyPart x.2.1).isSome = false) → e1 = (if xs.isEmpty then 0 else 1) → ks = kvs → wpAny (model X.prog X.w) X.A.in1.in1 (Builtin.Dict.updateFrom "dict.__init__" s.heap.objs.size (.ref a) [] .none)
        (fun fin s' => match fin with | .done f => wants (fun r t => r = .none ∧ EP X pins σ Q (.ref s.heap.objs.size) t) X.xe (.ok f) s' | .again c' => c'.quiet = true ∧ codeAny (model X.prog X.w) X.A.in1 c' (wants (fun r t => r = .none ∧ EP X pins σ Q (.ref s.heap.objs.size) t) X.xe) s')
        (fun e s' => wants (fun r t => r = .none ∧ EP X pins σ Q (.ref s.heap.objs.size) t) X.xe (.error e) s') { s with heap := s.heap.push { cls := .type "dict", data := .dict #[] } } := fun l h1 h2 h3 h4 h5 => by
    subst h5
    refine fill_copy (s := { s with heap := s.heap.push { cls := .type "dict", data := .dict #[] } }) .none ne hs D0 D1 hz h1 h2 h3 fun h' D' sb => ⟨rfl, .ref s.heap.objs.size, _, dct_new I (t' := s.toks) (fun b o e => (sb.2 b (Nat.ne_of_lt (Heap.lt_size e))).trans (kp0 b o e)) (Nat.le_refl _) hz D', rfl, ?_⟩
    rw [← h4]
    exact q _ _ (I.hok.fresh (Nat.le_refl _)) n t
  unfold copyK at hc
  have hks := t.keys
  split at hc
  · rename_i he
    cases hc
    have z : kvs = [] := by simpa using he
    subst z
    have z2 : xs = [] := t
    subst z2
    exact fin [] rfl List.nodup_nil (.inl rfl) rfl rfl
  · rename_i he
    split at hc
    · rename_i hf
      split at hc
      · rename_i l hl
        split at hc
        · rename_i hnd
          cases hc
          have hne : xs.isEmpty = false := by
            have := t.length
            cases xs with
            | nil =>
              have : kvs = [] := List.length_eq_zero_iff.mp this.symm
              subst this
              exact absurd rfl he
            | cons _ _ => rfl
          refine fin l (by rw [hks]; exact hl) (of_decide_eq_true hnd) (.inr ?_) (by rw [hne]; rfl) rfl
          rcases Bool.or_eq_true_iff.mp hf with z | z
          · left
            rw [t.length]
            exact of_decide_eq_true z
          · right
            obtain ⟨p, hp, hz⟩ := List.any_eq_true.mp z
            obtain ⟨j, hj⟩ := List.mem_iff_getElem?.mp hp
            obtain ⟨x, h1, h2, h3, ⟨v, h4, h5⟩, _⟩ := t.get hj
            refine ⟨x, List.mem_of_getElem? h1, ?_⟩
            obtain ⟨k, d⟩ := p
            cases k with
            | tup ys =>
              obtain ⟨b, ws, rfl, _⟩ := h5
              have : x.2.1 = .ref b := h4
              rw [this]
              rfl
            | _ => cases hz
        · cases hc
      · cases hc
    · cases hc
end
end PV
set_option Elab.async false
set_option linter.all false
set_option autoImplicit false
set_option maxRecDepth 100000
set_option maxHeartbeats 1000000
namespace PV
open PySem PySem.Spec PyProof.Rows L2
variable {τ : TBT}
section
variable {ω : World} {K : PySem.W.Frag} {r : RA} {H : Hp} {M : List MO}
mutual
theorem deepW_ok {f : Nat → Option PyData} (hf : ∀ i pd a w, f i = some pd → r[i]? = some (a, w) → Dp K H (.ref a) pd) : ∀ (d : D) (v : V) (pd : PyData), deepW f d = some pd → Rep K r H d v → Dp K H v pd
  | .non, v, pd, e, h => by cases e; cases h; exact .non
  | .bl x, v, pd, e, h => by cases e; cases h; exact .bl x
  | .int i, v, pd, e, h => by cases e; cases h; exact .int i
  | .str x, v, pd, e, h => by cases e; cases h; exact .str x
  | .tup xs, v, pd, e, h => by
    obtain ⟨a, vs, rfl, q, t⟩ := h
    simp only [deepW] at e
    cases q2 : deepWL f xs with
    | none => rw [q2] at e; cases e
    | some ys =>
      rw [q2] at e
      cases e
      exact .tup q (deepWL_ok hf xs vs ys q2 t)
  | .ref i, v, pd, e, h => by
    obtain ⟨a, wa, ha, rfl⟩ := h
    exact hf i pd a wa e ha
theorem deepWL_ok {f : Nat → Option PyData} (hf : ∀ i pd a w, f i = some pd → r[i]? = some (a, w) → Dp K H (.ref a) pd) : ∀ (ds : List D) (vs : List V) (ps : List PyData), deepWL f ds = some ps → RepL K r H ds vs → DpAll K H vs ps
  | [], vs, ps, e, h => by
    rw [show vs = [] from h]
    cases e
    exact .nil
  | x :: xs, vs, ps, e, h => by
    obtain ⟨v, vr, rfl, h1, t⟩ := h
    simp only [deepWL] at e
    cases q1 : deepW f x with
    | none => rw [q1] at e; cases e
    | some y =>
      cases q2 : deepWL f xs with
      | none => rw [q1, q2] at e; cases e
      | some ys =>
        rw [q1, q2] at e
        cases e
        exact .cons (deepW_ok hf x v y q1 h1) (deepWL_ok hf xs vr ys q2 t)
end
theorem RO.sq {a : Addr} {w : Bool} {xs : List D} (h : RO ω K r H a (.lst w xs)) : ∃ vs, SqL K H a vs ∧ RepL K r H xs vs := by
  cases w with
  | true => obtain ⟨vs, e, t⟩ := h; exact ⟨vs, SqL.of e, t⟩
  | false => obtain ⟨vs, e, t⟩ := h; exact ⟨vs, e.sq, t⟩
theorem deepR_ok (R : Rel ω K r M H) : ∀ (n : Nat) (i : Nat) (pd : PyData) (a : Addr) (w : Bool), deepR M n i = some pd → r[i]? = some (a, w) → Dp K H (.ref a) pd
  | 0, _, _, _, _, e, _ => by cases e
  | n + 1, i, pd, a, wa, e, ha => by
    simp only [deepR] at e
    split at e
    · rename_i w xs hm
      obtain ⟨vs, q, t⟩ := (R.ob hm ha).sq
      cases q2 : deepWL (deepR M n) xs with
      | none => rw [q2] at e; cases e
      | some ys =>
        rw [q2] at e
        cases e
        exact .lst q (deepWL_ok (deepR_ok R n) xs vs ys q2 t)
    · cases e
theorem deep_ok (R : Rel ω K r M H) {d : D} {v : V} {pd : PyData} (e : deep M d = some pd) (h : Rep K r H d v) : Dp K H v pd := deepW_ok (deepR_ok R 8) d v pd e h
end
section
variable {X : Cx}
def C2.op : C2 → CmpOp
  | .eq => .Eq
  | .ne => .NotEq
  | .lt => .Lt
  | .le => .LtE
  | .gt => .Gt
  | .ge => .GtE
  | .is => .Is
  | .isn => .IsNot
  | .inn => .In
  | .nin => .NotIn
def rC (τ : TBT) (ω : World) (K : PySem.W.Frag) (o : C2) : R2 := fun x y H Q => ∃ (b : List MO) (s s' : HS b) (r : RA) (dx dy d : D), Rel ω K r s.M H ∧ Rep K r H dx x ∧ Rep K r H dy y ∧ cmp o dx dy s = some (.ok d s') ∧ Then τ ω K r H d s'.M Q
theorem eqD_ok {ω : World} {K : PySem.W.Frag} {r : RA} {H : Hp} {M : List MO} {dx dy : D} {x y : V} {k : Bool} (R : Rel ω K r M H) (hx : Rep K r H dx x) (hy : Rep K r H dy y) (e : eqD M dx dy = some k) :
    ∃ p q, Dp K H x p ∧ Dp K H y q ∧ SeqAt.shaped p = true ∧ SeqAt.shaped q = true ∧ k = PyData.eqv p q := by
  unfold eqD at e
  split at e
  · rename_i p q e1 e2
    split at e
    · rename_i z
      simp only [Bool.and_eq_true] at z
      cases e
      exact ⟨p, q, deep_ok R e1 hx, deep_ok R e2 hy, z.1, z.2, rfl⟩
    · cases e
  · cases e
theorem cmp_pure {b : List MO} {o : C2} {x y : D} {s : HS b} {u : Out b D} (h : cmp o x y s = some u) : ∃ k, u = .ok (.bl k) s := by
  cases o <;> simp only [cmp, ret] at h <;> split at h <;> first | (cases h; done) | (cases h; exact ⟨_, rfl⟩) | (split at h <;> first | (cases h; done) | (cases h; exact ⟨_, rfl⟩))
def isNon : D → Bool
  | .non => true
  | _ => false
theorem isD_ok {x y : D} {k : Bool} (e : isD x y = some k) : (∃ a c, x = .bl a ∧ y = .bl c ∧ k = decide (a = c)) ∨ (y = .non ∧ k = isNon x) := by
  cases x <;> cases y <;> simp only [isD] at e <;> first | (cases e; done) | (cases e; exact .inl ⟨_, _, rfl, rfl, rfl⟩) | (cases e; exact .inr ⟨rfl, rfl⟩)
theorem rep_non {K : PySem.W.Frag} {r : RA} {H : Hp} {d : D} {v : V} (h : Rep K r H d v) : decide (v = V.non) = isNon d := by
  cases d with
  | non => cases h; rfl
  | bl _ => cases h; rfl
  | int _ => cases h; rfl
  | str _ => cases h; rfl
  | tup _ => obtain ⟨a, vs, rfl, _⟩ := h; rfl
  | ref _ => obtain ⟨a, _, _, rfl⟩ := h; rfl
  | fn _ => cases h; rfl
theorem ltD_ok {ω : World} {K : PySem.W.Frag} {r : RA} {H : Hp} {M : List MO} {dx dy : D} {x y : V} {k sw : Bool} (R : Rel ω K r M H) (hx : Rep K r H dx x) (hy : Rep K r H dy y) (e : ltD sw M dx dy = some k) :
    ∃ p q, Dp K H x p ∧ Dp K H y q ∧ PySem.W.alike p q = true ∧ p ≠ .none ∧ p.depth ≤ 64 ∧ k = if sw then PySem.W.dataLt q p else PySem.W.dataLt p q := by
  unfold ltD at e
  split at e
  · rename_i p q e1 e2
    split at e
    · rename_i z
      simp only [Bool.and_eq_true, decide_eq_true_eq] at z
      cases e
      exact ⟨p, q, deep_ok R e1 hx, deep_ok R e2 hy, z.1.1, (fun y => by subst y; exact Bool.noConfusion z.1.2), z.2, rfl⟩
    · cases e
  · cases e
theorem in_ok {ω : World} {X : Cx} {τ : TBT} {b : List MO} {hs : HS b} {pins : List (Addr × Obj)} {s : Shared} {σ : L2.St} {H : Hp} {x y : V} {v u : Value} {Q : VK} {r : RA} {dx dy : D} {k neg : Bool} (hw : ω = X.w) (hu : X.A.units + 128 < cLine) (I : Inv X pins σ H s) (rx : RelV x v) (ry : RelV y u)
    (R : Rel ω X.K r hs.M H) (hx : Rep X.K r H dx x) (hy : Rep X.K r H dy y) (e : inD hs.M dx dy = some k) (T : Then τ ω X.K r H (.bl (if neg then !k else k)) hs.M Q) : wpAny (model X.prog X.w) X.A (compareOp (if neg then .NotIn else .In) v u) (EP X pins σ Q) X.xe s := by
  have hq : Q (.bl (if neg then !k else k)) H := T.self R rfl
  unfold inD at e
  split at e
  · rename_i p
    split at e
    · rename_i ep kvs hm
      split at e
      · rename_i hk
        cases e
        obtain ⟨a, wa, ha, rfl⟩ := hy
        obtain ⟨xs, e1, n, t⟩ := R.ob hm ha
        exact op_dIn hw hu neg pins s σ H _ _ v u Q I rx ry ⟨r, dx, a, ep, xs, kvs, rfl, hk, hx, e1, n, t, hq⟩
      · cases e
    · split at e
      · rename_i a ds e1 e2
        split at e
        · rename_i z
          cases e
          simp only [Bool.and_eq_true] at z
          have d1 := deep_ok R e1 hx
          have d2 := deep_ok R e2 hy
          cases neg with
          | true => exact op_notInD (by omega) pins s σ H _ _ v u Q I rx ry ⟨a, ds, d1, d2, z.1, z.2, hq⟩
          | false => exact op_inD (by omega) pins s σ H _ _ v u Q I rx ry ⟨a, ds, d1, d2, z.1, z.2, hq⟩
        · cases e
      · cases e
    · cases e
  · split at e
    · rename_i a ds e1 e2
      split at e
      · rename_i z
        cases e
        simp only [Bool.and_eq_true] at z
        obtain ⟨as, r1⟩ := Dp.reads I a x v (deep_ok R e1 hx) rx
        obtain ⟨bs, r2⟩ := Dp.reads I _ y u (deep_ok R e2 hy) ry
        cases neg with
        | true => exact SeqAt.notIn_tuple_reads r2 r1 (SeqAt.canLay_of_shaped z.2) (SeqAt.canLay_of_shaped z.1) (room_in_shaped z.1 (by omega)) ⟨.bl _, H, I, rfl, hq⟩
        | false => exact SeqAt.in_tuple_reads r2 r1 (SeqAt.canLay_of_shaped z.2) (SeqAt.canLay_of_shaped z.1) (room_in_shaped z.1 (by omega)) ⟨.bl _, H, I, rfl, hq⟩
      · cases e
    · cases e
  · cases e
theorem op_cmp {ω : World} (hw : ω = X.w) (hu : X.A.units + 128 < cLine) (o : C2) : OpR X (compareOp o.op) (rC τ ω X.K o) := by
  intro pins s σ H x y v u Q I rx ry h
  obtain ⟨b, hs, hs', r, dx, dy, d, R, hx, hy, e, T⟩ := h
  cases o with
  | eq =>
    simp only [cmp, ret] at e
    split at e
    · rename_i k ek
      cases e
      obtain ⟨p, q, h1, h2, s1, s2, rfl⟩ := eqD_ok R hx hy ek
      exact op_eqD (by omega) pins s σ H x y v u Q I rx ry ⟨p, q, h1, h2, s1, s2, T.self R rfl⟩
    · cases e
  | ne =>
    simp only [cmp, ret] at e
    split at e
    · rename_i k ek
      cases e
      obtain ⟨p, q, h1, h2, s1, s2, rfl⟩ := eqD_ok R hx hy ek
      exact op_neD (by omega) pins s σ H x y v u Q I rx ry ⟨p, q, h1, h2, s1, s2, T.self R rfl⟩
    · cases e
  | lt =>
    cases dx <;> cases dy <;> simp only [cmp, ret] at e <;> try (cases e; done)
    case int.int i j =>
      cases e; cases hx; cases hy
      exact op_lt pins s σ H _ _ v u Q I rx ry ⟨i, j, rfl, rfl, T.self R rfl⟩
    case tup.tup xs ys =>
      split at e
      · rename_i k ek
        cases e
        obtain ⟨p, q, h1, h2, h3, h4, h5, rfl⟩ := ltD_ok R hx hy ek
        exact op_ltD (by omega) pins s σ H _ _ v u Q I rx ry ⟨p, q, h1, h2, h3, h4, h5, T.self R rfl⟩
      · cases e
  | le =>
    cases dx <;> cases dy <;> simp only [cmp, ret] at e <;> try (cases e; done)
    case int.int i j =>
      cases e; cases hx; cases hy
      exact op_le pins s σ H _ _ v u Q I rx ry ⟨i, j, rfl, rfl, T.self R rfl⟩
    case tup.tup xs ys =>
      split at e
      · rename_i k ek
        cases e
        obtain ⟨k', ek', rfl⟩ := Option.map_eq_some_iff.mp ek
        obtain ⟨p, q, h1, h2, h3, h4, h5, rfl⟩ := ltD_ok R hx hy ek'
        exact op_leD (by omega) pins s σ H _ _ v u Q I rx ry ⟨p, q, h1, h2, h3, h4, h5, T.self R rfl⟩
      · cases e
  | gt =>
    cases dx <;> cases dy <;> simp only [cmp, ret] at e <;> try (cases e; done)
    case int.int i j =>
      cases e; cases hx; cases hy
      exact op_gt pins s σ H _ _ v u Q I rx ry ⟨i, j, rfl, rfl, T.self R rfl⟩
    case tup.tup xs ys =>
      split at e
      · rename_i k ek
        cases e
        obtain ⟨p, q, h1, h2, h3, h4, h5, rfl⟩ := ltD_ok R hx hy ek
        exact op_gtD (by omega) pins s σ H _ _ v u Q I rx ry ⟨p, q, h1, h2, h3, h4, h5, T.self R rfl⟩
      · cases e
  | ge =>
    cases dx <;> cases dy <;> simp only [cmp, ret] at e <;> try (cases e; done)
    case int.int i j =>
      cases e; cases hx; cases hy
      exact op_ge pins s σ H _ _ v u Q I rx ry ⟨i, j, rfl, rfl, T.self R rfl⟩
    case tup.tup xs ys =>
      split at e
      · rename_i k ek
        cases e
        obtain ⟨k', ek', rfl⟩ := Option.map_eq_some_iff.mp ek
        obtain ⟨p, q, h1, h2, h3, h4, h5, rfl⟩ := ltD_ok R hx hy ek'
        exact op_geD (by omega) pins s σ H _ _ v u Q I rx ry ⟨p, q, h1, h2, h3, h4, h5, T.self R rfl⟩
      · cases e
  | is =>
    simp only [cmp, ret] at e
    split at e
    · rename_i k ek
      cases e
      rcases isD_ok ek with ⟨a, c, rfl, rfl, rfl⟩ | ⟨rfl, rfl⟩
      · cases hx; cases hy
        exact op_isBl pins s σ H _ _ v u Q I rx ry ⟨a, c, rfl, rfl, T.self R rfl⟩
      · cases hy
        refine op_isN pins s σ H _ _ v u Q I rx ry ⟨rfl, ?_⟩
        rw [rep_non hx]
        exact T.self R rfl
    · cases e
  | isn =>
    simp only [cmp, ret] at e
    split at e
    · rename_i k ek
      cases e
      rcases isD_ok ek with ⟨a, c, rfl, rfl, rfl⟩ | ⟨rfl, rfl⟩
      · cases hx; cases hy
        exact op_notBl pins s σ H _ _ v u Q I rx ry ⟨a, c, rfl, rfl, T.self R rfl⟩
      · cases hy
        refine op_notN pins s σ H _ _ v u Q I rx ry ⟨rfl, ?_⟩
        rw [rep_non hx]
        exact T.self R rfl
    · cases e
  | inn =>
    simp only [cmp, ret] at e
    split at e
    · rename_i k ek
      cases e
      exact in_ok (neg := false) hw hu I rx ry R hx hy ek T
    · cases e
  | nin =>
    simp only [cmp, ret] at e
    split at e
    · rename_i k ek
      cases e
      exact in_ok (neg := true) hw hu I rx ry R hx hy ek T
    · cases e
theorem truth_ok {ω : World} {K : PySem.W.Frag} {r : RA} {H : Hp} {M : List MO} {d : D} {v : V} {k : Bool} (R : Rel ω K r M H) (h : Rep K r H d v) (e : truth M d = some k) : TruV K v H k := by
  cases d with
  | non => cases h; cases e; rfl
  | bl _ => cases h; cases e; rfl
  | int _ => cases h; cases e; rfl
  | str x =>
    cases h
    simp only [truth] at e
    split at e
    · rename_i z
      cases e
      refine ⟨sizeOk_le z, ?_⟩
      by_cases hz : x.length = 0
      · rw [hz]; rfl
      · rw [bne_iff_ne.mpr hz]
        exact (bne_iff_ne.mpr (by omega)).symm
    · cases e
  | tup xs =>
    obtain ⟨a, vs, rfl, q, t⟩ := h
    cases e
    refine .inr (.inl ⟨vs, q, ?_⟩)
    cases xs with
    | nil => rw [show vs = [] from t]; rfl
    | cons x xs => obtain ⟨v, vr, rfl, _⟩ := t; rfl
  | ref i =>
    obtain ⟨a, wa, ha, rfl⟩ := h
    simp only [truth] at e
    split at e
    · rename_i w xs hm
      cases e
      obtain ⟨vs, q, t⟩ := (R.ob hm ha).sq
      refine .inl ⟨vs, q, ?_⟩
      cases xs with
      | nil => rw [show vs = [] from t]; rfl
      | cons x xs => obtain ⟨v, vr, rfl, _⟩ := t; rfl
    · cases e
  | fn _ => cases e
def rIdx (τ : TBT) (ω : World) (K : PySem.W.Frag) : R2 := fun x y H Q => ∃ (b : List MO) (s s' : HS b) (r : RA) (dx dy d : D), Rel ω K r s.M H ∧ Rep K r H dx x ∧ Rep K r H dy y ∧ index dx dy s = some (.ok d s') ∧ Then τ ω K r H d s'.M Q
theorem index_pure {b : List MO} {x y : D} {s : HS b} {u : Out b D} (h : index x y s = some u) : ∃ d, u = .ok d s := by
  cases x <;> cases y <;> simp only [index, ret] at h <;> first
    | (cases h; done)
    | (split at h <;> first | (cases h; done) | (cases h; exact ⟨_, rfl⟩) | (split at h <;> first | (cases h; done) | (cases h; exact ⟨_, rfl⟩) | (split at h <;> first | (cases h; done) | (cases h; exact ⟨_, rfl⟩))))
theorem atI_rep {K : PySem.W.Frag} {r : RA} {H : Hp} {xs : List D} {vs : List V} {i : Int} {d : D} (t : RepL K r H xs vs) (e : atI xs i = some d) : ∃ v, atI vs i = some v ∧ Rep K r H d v := by
  unfold atI at e ⊢
  rw [t.length]
  cases q : ixN xs.length i with
  | none => rw [q] at e; cases e
  | some j =>
    rw [q] at e
    exact t.get e
theorem ix_idx {ω : World} (hw : ω = X.w) (hu : X.A.units + 128 < cLine) : IxR X (rIdx τ ω X.K) := by
  intro ev es pins s σ H x y v u Q I rx ry h hsub
  obtain ⟨b, hs, hs', r, dx, dy, d, R, hx, hy, e, T⟩ := h
  cases dx
  case tup xs =>
    cases dy <;> simp only [index, ret] at e <;> try (cases e; done)
    case int i =>
      split at e
      · rename_i d' ed
        cases e
        obtain ⟨a, vs, rfl, q, t⟩ := hx
        cases hy
        obtain ⟨w, e1, e2⟩ := atI_rep t ed
        exact ix_tup ev es pins s σ H _ _ v u Q I rx ry ⟨a, vs, i, w, rfl, rfl, q, e1, T.self R e2⟩ hsub
      · cases e
  case ref p =>
    simp only [index, ret] at e
    split at e
    · rename_i w xs hm
      split at e
      · rename_i i
        split at e
        · rename_i d' ed
          cases e
          obtain ⟨a, wa, ha, rfl⟩ := hx
          cases hy
          obtain ⟨vs, q, t⟩ := (R.ob hm ha).sq
          obtain ⟨w, e1, e2⟩ := atI_rep t ed
          exact ix_list ev es pins s σ H _ _ v u Q I rx ry ⟨a, vs, i, w, rfl, rfl, q, e1, T.self R e2⟩ hsub
        · cases e
      · cases e
    · rename_i ep kvs hm
      split at e
      · rename_i hk
        split at e
        · rename_i d' ed
          cases e
          obtain ⟨a, wa, ha, rfl⟩ := hx
          obtain ⟨xs, e1, n, t⟩ := R.ob hm ha
          exact ix_dct hw hu ev es pins s σ H _ _ v u Q I rx ry ⟨r, dy, d, a, ep, xs, kvs, rfl, hk, hy, e1, n, t, ed, fun v' rv => T.self R rv⟩ hsub
        · cases e
      · cases e
    · cases e
  all_goals (cases dy <;> simp only [index, ret] at e <;> cases e)
def rSlc (τ : TBT) (ω : World) (K : PySem.W.Frag) : V → Option Int → Option Int → Hp → VK → Prop := fun x lo hi H Q => ∃ (b : List MO) (s s' : HS b) (r : RA) (dx d : D), Rel ω K r s.M H ∧ Rep K r H dx x ∧ slice dx lo hi s = some (.ok d s') ∧ Then τ ω K r H d s'.M Q
theorem slice_ok {b : List MO} {x : D} {lo hi : Option Int} {s : HS b} {u : Out b D} (h : slice x lo hi s = some u) : ∃ d s', u = .ok d s' := by
  cases x <;> simp only [slice, ret] at h <;> first
    | (cases h; done)
    | (cases h; exact ⟨_, _, rfl⟩)
    | (split at h <;> first | (cases h; done) | (cases h; exact ⟨_, _, rfl⟩))
theorem cut_rep {K : PySem.W.Frag} {r : RA} {H : Hp} {xs : List D} {vs : List V} (lo hi : Option Int) (t : RepL K r H xs vs) : RepL K r H (cutD xs lo hi) (cutV vs lo hi) := by
  unfold cutD cutV
  rw [t.length]
  exact (t.drop _).take _
theorem sl_slc {ω : World} : SlR X (rSlc τ ω X.K) := by
  intro pins s σ H x v vl vu lo hi sl Q I rx hs pl pu h
  obtain ⟨b, hs1, hs', r, dx, d, R, hx, e, T⟩ := h
  cases dx <;> simp only [slice, ret] at e <;> try (cases e; done)
  case tup xs =>
    cases e
    obtain ⟨a, vs, rfl, q, t⟩ := hx
    refine sl_tupA pins s σ H _ v vl vu lo hi sl Q I rx hs pl pu ⟨a, vs, rfl, q, fun z => ?_, fun _ p hp => T.tup R (cut_rep lo hi t) p hp⟩
    have e : cutD xs lo hi = xs := by
      unfold cutD
      rw [← t.length, z.1, z.2, t.length]
      simp
    rw [e] at T
    exact T.self R ⟨a, vs, rfl, q, t⟩
  case ref p =>
    split at e
    · rename_i w xs hm
      cases e
      obtain ⟨a, wa, ha, rfl⟩ := hx
      obtain ⟨vs, q, t⟩ := (R.ob hm ha).sq
      exact sl_list pins s σ H _ v vl vu lo hi sl Q I rx hs pl pu ⟨a, vs, rfl, q, fun p hp => T.lst R (cut_rep lo hi t) p hp⟩
    · cases e
def BI.val : BI → Value
  | .len => .builtin "len"
  | .all => .builtin "all"
  | .any => .builtin "any"
  | .sum => .builtin "sum"
  | .tuple => .type "tuple"
  | .list => .type "list"
  | .int => .type "int"
  | .max2 => .builtin "max"
  | .min2 => .builtin "min"
  | .repr => .builtin "repr"
  | .abs => .builtin "abs"
  | .dict => .type "dict"
  | .isi _ => .builtin "isinstance"
def rF (τ : TBT) (ω : World) (K : PySem.W.Frag) (g : BI) : List V → Hp → VK → Prop := fun xs H Q => ∃ (b : List MO) (s s' : HS b) (r : RA) (ds : List D) (d : D), Rel ω K r s.M H ∧ RepL K r H ds xs ∧ call g ds s = some (.ok d s') ∧ Then τ ω K r H d s'.M Q
theorem items_ok {ω : World} {K : PySem.W.Frag} {r : RA} {H : Hp} {M : List MO} {d : D} {v : V} {ys : List D} (R : Rel ω K r M H) (h : Rep K r H d v) (e : items M d = some ys) : ∃ a vs, v = .ref a ∧ ((SqL K H a vs ∧ ∃ i w, d = .ref i ∧ M[i]? = some (.lst w ys)) ∨ (SqT K H a vs ∧ d = .tup ys)) ∧ RepL K r H ys vs := by
  cases d <;> simp only [items] at e <;> try (cases e; done)
  case tup xs =>
    cases e
    obtain ⟨a, vs, rfl, q, t⟩ := h
    exact ⟨a, vs, rfl, .inr ⟨q, rfl⟩, t⟩
  case ref i =>
    split at e
    · rename_i w xs hm
      cases e
      obtain ⟨a, wa, ha, rfl⟩ := h
      obtain ⟨vs, q, t⟩ := (R.ob hm ha).sq
      exact ⟨a, vs, rfl, .inl ⟨q, i, w, rfl, hm⟩, t⟩
    · cases e
theorem one_rep {K : PySem.W.Frag} {r : RA} {H : Hp} {d : D} {xs : List V} (h : RepL K r H [d] xs) : ∃ v, xs = [v] ∧ Rep K r H d v := by
  obtain ⟨v, vr, rfl, h1, t⟩ := h
  rw [show vr = [] from t]
  exact ⟨v, rfl, h1⟩
theorem two_rep {K : PySem.W.Frag} {r : RA} {H : Hp} {d d' : D} {xs : List V} (h : RepL K r H [d, d'] xs) : ∃ v v', xs = [v, v'] ∧ Rep K r H d v ∧ Rep K r H d' v' := by
  obtain ⟨v, vr, rfl, h1, t⟩ := h
  obtain ⟨v', rfl, h2⟩ := one_rep t
  exact ⟨v, v', rfl, h1, h2⟩
theorem cr_sumT (hc : X.calm = true) : CallR X (.builtin "sum") (fun vs H Q => ∃ (a : Addr) (ns : List Int), vs = [V.ref a] ∧ SqT X.K H a (ns.map V.int) ∧ Q (.int ns.sum) H) := by
  intro pins s σ H xs us Q I rs h
  obtain ⟨a, ns, rfl, hq, q⟩ := h
  obtain ⟨u, rfl, ru⟩ := vals1 rs
  cases ru
  obtain ⟨its, rv, ht, hz⟩ := I.tuple hq
  have hi := rv.ints
  obtain ⟨ys, hy⟩ := hi.allInts.items
  have hn : numsOf its = ns := hi.numsOf
  have e2 : its.toArray = intItems ys := by rw [← hy]
  rw [e2] at ht
  refine PySem.W.ktm_sumG (I.ok.hd hc) ht fun h' tk t' hk => ?_
  have e3 : preSum (numAt ys) ys.size = ns.sum := by
    rw [preSum_eq, List.take_of_length_le (by simp), ← hn, show its = (intItems ys).toList from by rw [← e2], nums_intItems]
  rw [e3]
  exact ⟨.int _, H, I.kept (t' := tk) fun b o e => hk b o e, ⟨_, rfl⟩, q⟩
theorem truth_ints {prog : Program} {w : World} {A : Around} {ns : List Int} {its : List Value} (e : Vals (ns.map V.int) its) : TruthOf prog w A (fun i v => its.toArray[i]? = some v) (fun i => (ns.map (· != 0)).getD i false) := fun i v s Q E hv hq => by
  have hv' : its[i]? = some v := by simpa using hv
  have key : ∀ {ns : List Int} {its : List Value} {i : Nat}, Vals (ns.map V.int) its → its[i]? = some v → ∃ n t, ns[i]? = some n ∧ v = .int n t := by
    intro ns
    induction ns with
    | nil =>
      intro its i r h
      cases r
      simp at h
    | cons n ns ih =>
      intro its i r h
      cases r with
      | cons r1 r2 =>
        obtain ⟨t, rfl⟩ := r1
        cases i with
        | zero =>
          simp only [List.getElem?_cons_zero, Option.some.injEq] at h
          exact ⟨n, t, rfl, h.symm⟩
        | succ i =>
          simp only [List.getElem?_cons_succ] at h
          obtain ⟨m, t, h1, h2⟩ := ih r2 h
          exact ⟨m, t, by simpa using h1, h2⟩
  obtain ⟨n, t, h1, rfl⟩ := key e hv'
  have hg : (ns.map (· != 0)).getD i false = (n != 0) := by
    rw [List.getD_eq_getElem?_getD, List.getElem?_map, h1]
    rfl
  have hq' : Q ((ns.map (· != 0)).getD i false) s := hq
  rw [hg] at hq'
  exact PyProof.Rows.truthy_int hq'
theorem cr_anyT (hc : X.calm = true) : CallR X (.builtin "any") (fun vs H Q => ∃ (a : Addr) (ns : List Int), vs = [V.ref a] ∧ SqT X.K H a (ns.map V.int) ∧ Q (.bl ((ns.map (· != 0)).any id)) H) := by
  intro pins s σ H xs us Q I rs h
  obtain ⟨a, ns, rfl, hq, q⟩ := h
  obtain ⟨u, rfl, ru⟩ := vals1 rs
  cases ru
  obtain ⟨its, rv, ht, hz⟩ := I.tuple hq
  have ht' : s.heap.IsTuple a its.toArray := ht
  have hlt : a < s.heap.objs.size := by obtain ⟨_, e, _⟩ := ht'; exact Heap.lt_size e
  refine call_any_walk (wpAny_pyIter_tuple ht' ?_)
  refine ⟨_, _, _, _, _, _, _, rfl, Walks.tuple (A := X.A.in1) (I.ok.hd hc) s.heap.objs.size a (Nat.ne_of_lt hlt) its.toArray, ⟨⟨_, Heap.get?_push_size _ rfl, rfl, rfl⟩, ?_⟩, truth_ints rv, fun h' tk hk => ?_⟩
  · obtain ⟨o, e, r⟩ := ht'
    exact ⟨o, Heap.get?_push_of_some _ e, r⟩
  · refine ⟨.bl _, H, I.kept fun b o eo => hk b o (fun hmem => ?_) (Heap.get?_push_of_some _ eo), ?_, q⟩
    · rcases List.mem_cons.mp hmem with e1 | hmem
      · exact absurd (e1 ▸ Heap.lt_size eo) (Nat.lt_irrefl _)
      · cases hmem
    · show Value.bool _ = Value.bool _
      have hl : its.length = (ns.map (· != 0)).length := by rw [← rv.length]; simp
      rw [← L2.any_range, List.size_toArray, hl]
theorem cr_repr (hu : X.A.units + 200 < cLine) (hg : X.A.guards = some []) : CallR X (.builtin "repr") (fun vs H Q => ∃ (v : V) (d : PyData), vs = [v] ∧ Dp X.K H v d ∧ d.showable = true ∧ d.hasDict = false ∧ d.depth ≤ 64 ∧ d.shown.length ≤ sizeLine ∧ Q (.str d.shown) H) := by
  intro pins s σ H xs us Q I rs h
  obtain ⟨v, d, rfl, hd, h1, h2, h3, h4, q⟩ := h
  obtain ⟨u, rfl, ru⟩ := vals1 rs
  obtain ⟨as, rd⟩ := Dp.reads I d v u hd ru
  cases hd with
  | non =>
    cases ru
    exact PySem.P.repr_of_none ⟨.str _, H, I.tok _, ⟨_, rfl⟩, q⟩
  | bl x =>
    cases ru
    refine PySem.P.repr_of_bool ⟨.str _, H, I.tok _, ⟨_, rfl⟩, ?_⟩
    cases x <;> exact q
  | int i =>
    obtain ⟨t, rfl⟩ := ru
    exact PySem.P.repr_of_int (by simpa [PyData.showable] using h1) ⟨.str _, H, I.tok _, ⟨_, rfl⟩, q⟩
  | str x =>
    obtain ⟨t, rfl⟩ := ru
    exact PySem.P.repr_of_str ⟨.str _, H, I.tok _, ⟨_, rfl⟩, q⟩ h4
  | lst hs ha =>
    cases ru
    exact repr_of_reads' rd h1 (PyData.noDict_hsm h2) hg (by omega) (fun _ _ e => e) (fun h' u' tk hk => ⟨.str _, H, I.kept (t' := tk) fun b o e => hk b o e, ⟨_, rfl⟩, q⟩) h4
  | tup hs ha =>
    cases ru
    exact repr_of_reads' rd h1 (PyData.noDict_hsm h2) hg (by omega) (fun _ _ e => e) (fun h' u' tk hk => ⟨.str _, H, I.kept (t' := tk) fun b o e => hk b o e, ⟨_, rfl⟩, q⟩) h4
theorem cr_repr0 {ω : World} (hu : X.A.units + 200 < cLine) (hg : X.A.guards = some []) : CallR X (.builtin "repr") (fun vs H Q => ∃ a : Addr, vs = [.ref a] ∧ (∃ ep, H a = some (DctO ω a ep [])) ∧ Q (.str "{}") H) := by
  intro pins s σ H xs us Q I rs h
  obtain ⟨a, rfl, ⟨ep, hd⟩, q⟩ := h
  obtain ⟨u, rfl, ru⟩ := vals1 rs
  cases ru
  obtain ⟨⟨hm, _, o, es, e1, e2, e3, e4⟩, _⟩ := I.hok a _ hd
  have he : es.toList = [] := e4
  have rd : Reads s.heap (.ref a) (.dict []) (a :: [] ++ []) := .dict e1 e2.1 e3 (by rw [he]; exact .nil) (by rw [he]; exact .nil)
  refine repr_of_reads' rd rfl (fun _ z => ?_) hg (by show _ + (PyData.dict []).depth.succ < _; have : (PyData.dict []).depth ≤ 10 := by decide
                                                      omega) (fun _ _ e => e) (fun h' u' tk hk => ⟨.str _, H, I.kept (t' := tk) fun b o e => hk b o e, ⟨_, rfl⟩, q⟩) (by rw [sizeLine_eq]; decide)
  simp at z
  rw [← z] at hm
  simp at hm
theorem hasDict_dp {K : PySem.W.Frag} {H : Hp} {v : V} {d : PyData} (h : SeqAt.shaped d = true) : d.hasDict = false := PyData.hasDict_of_canLay d (SeqAt.canLay_of_shaped h)
mutual
theorem deepW_nodict {f : Nat → Option PyData} (hf : ∀ i pd, f i = some pd → pd.hasDict = false) : ∀ (d : D) (pd : PyData), deepW f d = some pd → pd.hasDict = false
  | .non, _, e => by cases e; rfl
  | .bl _, _, e => by cases e; rfl
  | .int _, _, e => by cases e; rfl
  | .str _, _, e => by cases e; rfl
  | .tup xs, pd, e => by
    simp only [deepW] at e
    cases q2 : deepWL f xs with
    | none => rw [q2] at e; cases e
    | some ys =>
      rw [q2] at e
      cases e
      simp only [PyData.hasDict]
      exact deepWL_nodict hf xs ys q2
  | .ref i, pd, e => hf i pd e
theorem deepWL_nodict {f : Nat → Option PyData} (hf : ∀ i pd, f i = some pd → pd.hasDict = false) : ∀ (ds : List D) (ps : List PyData), deepWL f ds = some ps → PyData.hasDictAll ps = false
  | [], ps, e => by cases e; rfl
  | x :: xs, ps, e => by
    simp only [deepWL] at e
    cases q1 : deepW f x with
    | none => rw [q1] at e; cases e
    | some y =>
      cases q2 : deepWL f xs with
      | none => rw [q1, q2] at e; cases e
      | some ys =>
        rw [q1, q2] at e
        cases e
        simp only [PyData.hasDictAll]
        rw [deepW_nodict hf x y q1, deepWL_nodict hf xs ys q2]
        rfl
end
theorem deepR_nodict {M : List MO} : ∀ (n i : Nat) (pd : PyData), deepR M n i = some pd → pd.hasDict = false
  | 0, _, _, e => by cases e
  | n + 1, i, pd, e => by
    simp only [deepR] at e
    split at e
    · rename_i w xs hm
      cases q2 : deepWL (deepR M n) xs with
      | none => rw [q2] at e; cases e
      | some ys =>
        rw [q2] at e
        cases e
        simp only [PyData.hasDict]
        exact deepWL_nodict (deepR_nodict n) xs ys q2
    · cases e
theorem deep_nodict {M : List MO} {d : D} {pd : PyData} (e : deep M d = some pd) : pd.hasDict = false := deepW_nodict (deepR_nodict 8) d pd e
def TyC.nm : TyC → String
  | .int => "int"
  | .bool => "bool"
  | .tuple => "tuple"
  | .list => "list"
  | .dict => "dict"
  | .str => "str"
def tySub : TyC → TyC → Bool
  | .int, .int => true
  | .bool, .bool => true
  | .bool, .int => true
  | .tuple, .tuple => true
  | .list, .list => true
  | .dict, .dict => true
  | .str, .str => true
  | _, _ => false
theorem kit_ty (K : PySem.W.Frag) (a c : TyC) : PySem.W.kitOne K (.type a.nm) (.type c.nm) = some (tySub a c) := by
  cases a <;> cases c <;> kernel_rfl
theorem kit_non (K : PySem.W.Frag) (c : TyC) : PySem.W.kitOne K (.type "NoneType") (.type c.nm) = some false := by
  cases c <;> kernel_rfl
theorem call_ok {b : List MO} {g : BI} {xs : List D} {s : HS b} {u : Out b D} (h : call g xs s = some u) : ∃ d s', u = .ok d s' := by
  cases g <;> simp only [call, ret] at h <;> (repeat' (first | (cases h; done) | (cases h; exact ⟨_, _, rfl⟩) | split at h))
def BI.hot : BI → Bool
  | .len => true
  | .tuple => true
  | .list => true
  | .int => true
  | .repr => true
  | .abs => true
  | .isi _ => true
  | _ => false
theorem cr_bi {ω : World} (hw : ω = X.w) {g : BI} (hc' : g.hot = false → X.calm = true) (hu : X.A.units + 200 < cLine) (hg : X.A.guards = some []) (hn : ∀ t, g ≠ .isi t) : CallR X g.val (rF τ ω X.K g) := by
  intro pins s σ H xs us Q I rs h
  obtain ⟨b, hs, hs', r, ds, d, R, hx, e, T⟩ := h
  cases g with
  | len =>
    simp only [call, ret] at e
    split at e
    · rename_i x
      split at e
      · rename_i ys ei
        cases e
        obtain ⟨v, rfl, h1⟩ := one_rep hx
        obtain ⟨a, vs, rfl, hq, t⟩ := items_ok R h1 ei
        refine call_len_seq pins s σ H _ us Q I rs ⟨a, vs, rfl, hq.elim (fun z => .inl z.1) fun z => .inr z.1, ?_⟩
        rw [t.length]
        exact T.self R rfl
      · split at e
        · rename_i p
          split at e
          · rename_i ep kvs hm
            cases e
            obtain ⟨v, rfl, h1⟩ := one_rep hx
            obtain ⟨a, wa, ha, rfl⟩ := h1
            obtain ⟨xs, e1, n, t⟩ := R.ob hm ha
            refine call_lenX hw pins s σ H _ us Q I rs ⟨a, ep, xs, rfl, e1, ?_⟩
            rw [t.length]
            exact T.self R rfl
          · cases e
        · cases e
    · cases e
  | all =>
    have hc := hc' rfl
    simp only [call, ret] at e
    split at e
    · rename_i p
      split at e
      · rename_i w ys hm
        split at e
        · rename_i bs eb
          cases e
          obtain ⟨v, rfl, h1⟩ := one_rep hx
          obtain ⟨a, wa, ha, rfl⟩ := h1
          obtain ⟨vs, q, t⟩ := (R.ob hm ha).sq
          rw [t.bools eb] at q
          exact cr_all hc pins s σ H _ us Q I rs ⟨a, bs, rfl, q, T.self R rfl⟩
        · cases e
      · cases e
    · cases e
  | any =>
    have hc := hc' rfl
    simp only [call, ret] at e
    split at e
    · rename_i p
      split at e
      · rename_i w ys hm
        split at e
        · rename_i bs eb
          cases e
          obtain ⟨v, rfl, h1⟩ := one_rep hx
          obtain ⟨a, wa, ha, rfl⟩ := h1
          obtain ⟨vs, q, t⟩ := (R.ob hm ha).sq
          rw [t.bools eb] at q
          exact cr_any hc pins s σ H _ us Q I rs ⟨a, bs, rfl, q, T.self R rfl⟩
        · cases e
      · cases e
    · rename_i ys
      split at e
      · rename_i ns en
        cases e
        obtain ⟨v, rfl, h1⟩ := one_rep hx
        obtain ⟨a, vs, rfl, q, t⟩ := h1
        rw [t.ints en] at q
        exact cr_anyT hc pins s σ H _ us Q I rs ⟨a, ns, rfl, q, T.self R rfl⟩
      · cases e
    · cases e
  | sum =>
    have hc := hc' rfl
    simp only [call, ret] at e
    split at e
    · rename_i x
      split at e
      · rename_i ys ei
        split at e
        · rename_i ns en
          cases e
          obtain ⟨v, rfl, h1⟩ := one_rep hx
          obtain ⟨a, vs, rfl, hq, t⟩ := items_ok R h1 ei
          rw [t.ints en] at hq
          rcases hq with ⟨hq, _⟩ | ⟨hq, _⟩
          · exact cr_sum hc pins s σ H _ us Q I rs ⟨a, ns, rfl, hq, T.self R rfl⟩
          · exact cr_sumT hc pins s σ H _ us Q I rs ⟨a, ns, rfl, hq, T.self R rfl⟩
        · cases e
      · cases e
    · cases e
  | tuple =>
    simp only [call, ret] at e
    split at e
    · rename_i x
      split at e
      · rename_i ys ei
        cases e
        obtain ⟨v, rfl, h1⟩ := one_rep hx
        obtain ⟨a, vs, rfl, hq, t⟩ := items_ok R h1 ei
        rcases hq with ⟨hq, _⟩ | ⟨hq, rfl⟩
        · exact call_tuple_of pins s σ H _ us Q I rs ⟨a, vs, rfl, .inl ⟨hq, fun l hl => T.tup R t l hl⟩⟩
        · exact call_tuple_of pins s σ H _ us Q I rs ⟨a, vs, rfl, .inr ⟨hq, T.self R h1⟩⟩
      · cases e
    · cases e
  | list =>
    simp only [call, ret] at e
    split at e
    · rename_i x
      split at e
      · rename_i ys ei
        cases e
        obtain ⟨v, rfl, h1⟩ := one_rep hx
        obtain ⟨a, vs, rfl, hq, t⟩ := items_ok R h1 ei
        exact call_list_of pins s σ H _ us Q I rs ⟨a, vs, rfl, hq.elim (fun z => .inl z.1) fun z => .inr z.1, fun l hl => T.lst R t l hl⟩
      · cases e
    · cases e
  | int =>
    simp only [call, ret] at e
    split at e
    · rename_i i
      cases e
      obtain ⟨v, rfl, h1⟩ := one_rep hx
      cases h1
      exact call_int1 pins s σ H _ us Q I rs (.inl ⟨i, rfl, T.self R rfl⟩)
    · rename_i k
      cases e
      obtain ⟨v, rfl, h1⟩ := one_rep hx
      cases h1
      exact call_int1 pins s σ H _ us Q I rs (.inr ⟨k, rfl, T.self R rfl⟩)
    · cases e
  | max2 =>
    have hc := hc' rfl
    simp only [call, ret] at e
    split at e
    · rename_i i j
      cases e
      obtain ⟨v, v', rfl, h1, h2⟩ := two_rep hx
      cases h1; cases h2
      exact call_max2 hc pins s σ H _ us Q I rs ⟨i, j, rfl, T.self R rfl⟩
    · cases e
  | min2 =>
    have hc := hc' rfl
    simp only [call, ret] at e
    split at e
    · rename_i i j
      cases e
      obtain ⟨v, v', rfl, h1, h2⟩ := two_rep hx
      cases h1; cases h2
      exact call_min2 hc pins s σ H _ us Q I rs ⟨i, j, rfl, T.self R rfl⟩
    · cases e
  | repr =>
    simp only [call, ret] at e
    split at e
    · rename_i x
      split at e
      · rename_i pd ed
        split at e
        · rename_i z
          cases e
          simp only [Bool.and_eq_true, decide_eq_true_eq] at z
          obtain ⟨v, rfl, h1⟩ := one_rep hx
          exact cr_repr hu hg pins s σ H _ us Q I rs ⟨v, pd, rfl, deep_ok R ed h1, z.1.1, deep_nodict ed, z.2, sizeOk_le z.1.2, T.self R rfl⟩
        · cases e
      · split at e
        · rename_i p
          split at e
          · rename_i hm
            cases e
            obtain ⟨v, rfl, a, wa, ha, rfl⟩ := one_rep hx
            obtain ⟨xs, e1, _, t⟩ := R.ob hm ha
            rw [show xs = [] from t] at e1
            exact cr_repr0 (ω := ω) hu hg pins s σ H _ us Q I rs ⟨a, rfl, ⟨_, e1⟩, T.self R rfl⟩
          · cases e
        · cases e
    · cases e
  | abs =>
    simp only [call, ret] at e
    split at e
    · rename_i i
      cases e
      obtain ⟨v, rfl, h1⟩ := one_rep hx
      cases h1
      exact call_abs pins s σ H _ us Q I rs ⟨i, rfl, T.self R rfl⟩
    · cases e
  | dict =>
    have hc := hc' rfl
    simp only [call, ret] at e
    split at e
    · rename_i p
      obtain ⟨v, rfl, h1⟩ := one_rep hx
      obtain ⟨a, wa, ha, rfl⟩ := h1
      split at e
      · rename_i w ys hm
        split at e
        · rename_i ps hp
          split at e
          · rename_i hz
            cases e
            obtain ⟨vs, q, t⟩ := (R.ob hm ha).sq
            refine cr_dictL hw hc (by omega) pins s σ H _ us Q I rs ⟨r, a, vs, ys, ps, rfl, q, t, hp, sizeOk_le hz, fun pa xs np nd rk => ?_⟩
            exact T (r ++ [(pa, true)]) _ _ (Fx.alloc np) (R.alloc np rfl ⟨xs, upd_same, nd, RepKV.mono (List.prefix_append _ _) (Ext.new np) _ _ rk⟩) ⟨pa, true, by rw [← R.len]; simp, rfl⟩
          · cases e
        · cases e
      · rename_i ep kvs hm
        split at e
        · rename_i c hcp
          split at e
          · rename_i hz
            cases e
            obtain ⟨xs, e1, n, t⟩ := R.ob hm ha
            refine cr_dictD hw pins s σ H _ us Q I rs ⟨r, a, ep, kvs, c.2, c.1, xs, rfl, e1, n, t, hcp, fun pa ys np nd rk => ?_⟩
            exact T (r ++ [(pa, true)]) _ _ (Fx.alloc np) (R.alloc np rfl ⟨ys, upd_same, nd, RepKV.mono (List.prefix_append _ _) (Ext.new np) _ _ rk⟩) ⟨pa, true, by rw [← R.len]; simp, rfl⟩
          · cases e
        · cases e
      · cases e
    · cases e
  | isi t => exact absurd rfl (hn t)
theorem cr_isi {ω : World} (hw : ω = X.w) (t : TyC) : CallR X (.builtin "isinstance") (fun xs H Q => ∃ (v : V), xs = [v, .ty t.nm] ∧ rF τ ω X.K (.isi t) [v] H Q) := by
  intro pins s σ H xs us Q I rs h
  obtain ⟨v, rfl, b, hs, hs', r, ds, d, R, hx, e, T⟩ := h
  simp only [call, ret] at e
  split at e
  · rename_i x
    split at e
    · rename_i k ek
      cases e
      obtain ⟨v', e', h1⟩ := one_rep hx
      cases e'
      have go : ∀ a : TyC, TyX X.K H v (.type a.nm) → k = tySub a t →
          wpAny (model X.prog X.w) X.A (PySem.call (.builtin "isinstance") us) (EP X pins σ Q) X.xe s := fun a ta ea =>
        call_isi pins s σ H _ us Q I rs ⟨v, .ty t.nm, .type a.nm, .type t.nm, k, rfl, .ty _, ta, by rw [ea]; exact kit_ty _ a t, T.self R rfl⟩
      cases x with
      | non =>
        cases h1
        cases ek
        refine call_isi pins s σ H _ us Q I rs ⟨.non, .ty t.nm, .type "NoneType", .type t.nm, false, rfl, .ty _, .base .non, kit_non _ t, T.self R rfl⟩
      | bl z =>
        cases h1
        simp only [isTy] at ek
        exact go .bool (.base (.bl z)) (by cases t <;> (cases ek; rfl))
      | int z =>
        cases h1
        simp only [isTy] at ek
        exact go .int (.base (.int z)) (by cases t <;> (cases ek; rfl))
      | str z =>
        cases h1
        simp only [isTy] at ek
        exact go .str (.base (.str z)) (by cases t <;> (cases ek; rfl))
      | tup zs =>
        obtain ⟨a, vs, rfl, q, tt⟩ := h1
        simp only [isTy] at ek
        refine go .tuple ?_ (by cases t <;> (cases ek; rfl))
        rcases q with (q | ⟨o, q⟩) | ⟨o, its, n, k1, k2, _⟩
        · exact .base (.tup q)
        · exact .fTuple q
        · exact .kTuple k1 k2
      | ref i =>
        obtain ⟨a, wa, ha, rfl⟩ := h1
        simp only [isTy] at ek
        split at ek
        · rename_i w zs hm
          refine go .list ?_ (by cases t <;> (cases ek; rfl))
          have ro := R.ob hm ha
          cases w with
          | true => obtain ⟨vs, e1, _⟩ := ro; exact .base (.lst e1)
          | false =>
            obtain ⟨vs, e1, _⟩ := ro
            rcases e1 with ⟨o, q⟩ | ⟨o, its, n, k1, k2, _⟩
            · exact .base (.frz q)
            · exact .kList k1 k2
        · rename_i ep kvs hm
          obtain ⟨xs, e1, _⟩ := R.ob hm ha
          exact call_isiX hw pins s σ H _ us Q I rs ⟨a, ep, xs, .ty t.nm, .type t.nm, k, rfl, e1, .ty _, (kit_ty _ .dict t).trans (by cases t <;> (cases ek; rfl)), T.self R rfl⟩
        · cases ek
      | fn x => cases ek
    · cases e
  · cases e
end
end PV
set_option Elab.async false
set_option linter.all false
set_option autoImplicit false
set_option maxRecDepth 100000
set_option maxHeartbeats 1000000
namespace PV
open PySem PySem.Spec PyProof.Rows L2
structure FnG (P : Program) (w : World) (K : PySem.W.Frag) (mg : Str → Option Value) (base : Heap) (k : Nat) (f : Addr) (fd : FuncData) (ps : List Str) (sp : Sp) : Prop where
  len : ∀ vs H Q E, sp vs H Q E → vs.length = ps.length
  run : ∀ (A : Around) (outer : List PySem.Env) (s : Shared) (H : Hp) (args : Args) (us : List Value) (vs : List V) (Q : VK) (E : XK), Room k A → A.guards = some [] → Env0 P w K mg base A outer s H →
    BindsTo s fd args (ps.zip us) → Vals vs us → sp vs H Q E → codeAny (model P w) A (.call (.ref f) args) (CR (L2.CX P w) outer P w H s Q E) s
section
variable {X : Cx} {k : Nat} {f : Addr} {fd : FuncData} {ps : List Str} {sp : Sp} {W : WX} {x : Str} {p pos : Pos} {e : Expr} {es : List Expr} {t : TA}
theorem run_g {pins : List (Addr × Obj)} {σ : L2.St} {H : Hp} {s : Shared} {Q : VK} {us : List Value} {vs : List V} (F : FnG X.prog X.w X.K X.mg X.base k f fd ps sp) (hr : Room k X.A) (hg : X.A.guards = some []) (hb : Binds X.K fd ps [])
    (tk : Takes X W) (I : Inv X pins σ H s) (r : Vals vs us) (h : sp vs H Q fun c d H' => W c d σ H') : wpAny (model X.prog X.w) X.A (PySem.call (.ref f) us) (EP X pins σ Q) X.xe s := by
  have hl : us.length = ps.length := by rw [← r.length]; exact F.len _ _ _ _ h
  have hb' : BindsTo s fd ⟨us, []⟩ (ps.zip us) := by
    have q := hb s us I.kIn (by rw [List.append_nil]; exact hl)
    rw [List.append_nil] at q
    exact q
  refine wpAny_call (codeAny_mono (F.run X.A X.stack s H ⟨us, []⟩ us vs Q _ hr hg I.env0 hb' r h) fun res s' hq => ?_)
  match res, hq with
  | .error u, hq => exact tk u s' (XE.of_call I (fun _ _ _ z => z) hq)
  | .ok (.ret u), hq => exact I.after hq
  | .ok .next, hq => exact False.elim hq
  | .ok .brk, hq => exact False.elim hq
  | .ok .cont, hq => exact False.elim hq
def tG (sp : Sp) (W : WX) (t : TA) : TE := fun σ H Q => t σ H fun vs H1 => sp vs H1 Q fun c d H' => W c d σ H'
theorem pe_g (F : FnG X.prog X.w X.K X.mg X.base k f fd ps sp) (hr : Room k X.A) (hgd : X.A.guards = some []) (hg : Gl X x) (hm : X.mg x = some (.ref f)) (hk : PySem.W.keepIn X.K (.ref f) = true) (hb : Binds X.K fd ps []) (tk : Takes X W)
    (ha : PA X (e :: es) t) (hdb : (x == ("__debug__" : Str)) = false) (he : starEach (e :: es) X.env = (false, eval e X.env) :: starEach es X.env) (hpl : (backTo pos (starEach es X.env)).any (·.1) = false) :
    PE X (.Call (.Name x p) (e :: es) [] pos) (tG sp W t) :=
  ⟨fun pins s σ H Q I h => wpAny_Call_Name_kw (ld_glob I hg hm (PySem.W.callWith_K (h₀ := X.base) I.ok.mod.kin hk
    (thn (ha.run pos pins s σ H _ I h) fun us s1 ⟨vs, H1, I1, r, q⟩ => ⟨I1.kIn, run_g F hr hgd hb tk I1 r q⟩) he hpl) hdb)⟩
theorem pe_g0 (F : FnG X.prog X.w X.K X.mg X.base k f fd ps sp) (hr : Room k X.A) (hgd : X.A.guards = some []) (hg : Gl X x) (hm : X.mg x = some (.ref f)) (hk : PySem.W.keepIn X.K (.ref f) = true) (hb : Binds X.K fd ps []) (tk : Takes X W)
    (hdb : (x == ("__debug__" : Str)) = false) : PE X (.Call (.Name x p) [] [] pos) (tG sp W tNil) :=
  ⟨fun pins s σ H Q I h => wpAny_Call_Name_kw (ld_glob I hg hm (PySem.W.callWith_K0 I.kIn hk (run_g (us := []) F hr hgd hb tk I .nil h)) hdb)⟩
end
theorem fn_g {P : Program} {w : World} {K : PySem.W.Frag} {mg : Str → Option Value} {base : Heap} {k : Nat} {f : Addr} {name qual : Str} {params : Arguments} {body : List Stmt} {scope : Scope} {dV kV doc pm cdv ct oc : Value} {an od : Option Addr}
    {osl : Array (Option Value)} {N ps : List Str} {sp : Sp} (lk : K.lookup f = some ⟨oc, od, .func (PySem.W.fnOf name qual params body scope dV kV doc pm an cdv ct), osl⟩) (hcd : PySem.W.codeIn K cdv qual = true) (S : FnScope N ps scope)
    (len : ∀ vs H Q E, sp vs H Q E → vs.length = ps.length)
    (hbody : ∀ (A : Around) (outer : List PySem.Env) (s : Shared) (H : Hp) (vs : List V) (Q : VK) (E : XK), Room k (A.deeper (envOfC qual scope s.heap.objs.size f cdv)) → A.guards = some [] → sp vs H Q E →
      ∃ t, PSs (cxOf (L2.CX P w) P w K mg base N qual scope f cdv A outer s H E) body t ∧ t { nx := fun _ H' => Q .non H', rt := Q } (start N vs) H) :
    FnG P w K mg base (k + 1) f (PySem.W.fnOf name qual params body scope dV kV doc pm an cdv ct) ps sp := by
  refine ⟨len, fun A outer s H args us vs Q E hr hgd e0 hb r hsp => ?_⟩
  have hin : ∀ b o, base.get? b = some o → s.heap.get? b = some o := fun b o e => (e0.bs b o e).1
  have KX : K.In s.heap := e0.mod.kin.keeps hin
  refine codeAny_call_function hr.depth (KX _ _ lk) rfl S.co S.gen rfl (PySem.W.codeRec_of KX hcd) (hb _ _ _ _ (wpAny_newFunctionEnv_cells S.kind (fun y hy => ?_) fun env he s1 x => ?_))
  · rcases S.par y.1 (List.of_mem_zip (show (y.1, y.2) ∈ ps.zip us from hy)).1 with q | q
    · exact .inl q
    · exact .inr ⟨q, PySem.W.cellsFrom_some _ _ _ (.inl q)⟩
  · subst he
    obtain ⟨t, ht, hq⟩ := hbody A outer s H vs Q E (hr.deeper _) hgd hsp
    have I := inv_start (CX := L2.CX P w) (E := E) S hr.hd e0 (len _ _ _ _ hsp) r x
    refine ⟨(e0.mod.nolimit.keeps hin).keeps x.toInCall.keep, codeAny_func (wpAny_mono (ht.run [] s1 (start N vs) H _ I hq) (fun fl s' hs => ?_) fun _ _ z => z)⟩
    match fl, hs with
    | .ret u, ⟨v, σ', H', J, rv, q⟩ => exact ⟨v, H', J.os, J.bare, J.base, J.hok, rv, q⟩
    | .next, ⟨σ', H', J, q⟩ => exact ⟨V.non, H', J.os, J.bare, J.base, J.hok, rfl, q⟩
    | .brk, ⟨_, _, _, q⟩ => exact False.elim q
    | .cont, ⟨_, _, _, q⟩ => exact False.elim q
theorem law_g {P : Program} {w : World} {K : PySem.W.Frag} {mg mb : Str → Option Value} {k : Nat} {fa a : Addr} {fd : FuncData} {x : Str} {sp : Sp} {s1 : Shared} {vs : List Value} {ns : List Int}
    (KX : K.In s1.heap) (hns : s1.heap.Ns mainGlobals mg) (hb : s1.heap.Ns builtinsNs mb) (hbb : ∀ x : Str, x ≠ "__name__" → mb x = bootBuiltins x) (hlim : s1.heap.NoLimit) (hg : s1.gens = #[])
    (ha : s1.heap.get? a = some { cls := .type "list", data := .seq vs.toArray }) (hi : IntsAre vs ns) (hl : ns.length ≤ sizeLine) (hr : Room k callerA)
    (F : ∀ base : Heap, K.In base → base.Ns mainGlobals mg → FnG P w K mg base k fa fd [x] sp) (hbind : ∀ (s : Shared) (u : Value), BindsTo s fd ⟨[u], []⟩ [(x, u)])
    (hsp : ∀ H : Hp, Fz K H a (ns.map V.int) → sp [.ref a] H (fun v _ => v = .bl true) fun _ _ _ => False) :
    codeAny (model P w) callerA (.call (.ref fa) ⟨[.ref a], []⟩) (fun r s' => r = .ok (.ret (.bool true)) ∧ OldK s1.heap s'.heap ∧ s'.os = s1.os ∧ AllBare s'.gens) s1 := by
  have lenV := hi.length
  have go : ∀ H : Hp, (∀ b u, H b = some u → b = a ∧ K.lookup a = none ∧ ∃ o xs, u = .frz o (.lst xs)) → Fz K H a (ns.map V.int) → HOk P w H s1.heap →
      codeAny (model P w) callerA (.call (.ref fa) ⟨[.ref a], []⟩) (fun r s' => r = .ok (.ret (.bool true)) ∧ OldK s1.heap s'.heap ∧ s'.os = s1.os ∧ AllBare s'.gens) s1 := by
    intro H hO hS hok
    have only : ∀ {b : Addr}, b ≠ a → H b = none := fun {b} nb => by
      cases q : H b with
      | none => rfl
      | some u => exact absurd (hO b u q).1 nb
    have nsK : ∀ {b : Addr} {m : Str → Option Value}, s1.heap.Ns b m → (hidT s1.heap H).Ns b m := fun {b m} ⟨o, es, ep, e, d, r⟩ => ⟨o, es, ep, hidT_get e (only fun z => by
      subst z
      rw [ha] at e
      cases e
      have z2 : Data.seq vs.toArray _ = Data.dict es ep := d
      cases z2), d, r⟩
    have hKb : K.In (hidT s1.heap H) := fun b o e => hidT_get (KX b o e) (by
      cases q : H b with
      | none => rfl
      | some u =>
        obtain ⟨z, z2, _⟩ := hO b u q
        rw [z, z2] at e
        cases e)
    have hM : Mod K mg (hidT s1.heap H) := ⟨hKb, nsK hns, ⟨mb, nsK hb, hbb⟩, let ⟨mc, h1, h2⟩ := hlim; ⟨mc, nsK h1, h2⟩⟩
    have e0 : Env0 P w K mg (hidT s1.heap H) callerA [] s1 H := ⟨rfl, hM, fun b o e => of_hidT e, Nat.le_of_eq (hidT_size _ _), trivial, fun b hb => (by cases (show b ∈ ([] : List Addr) from hb)), hok, .of_eq hg⟩
    refine codeAny_mono ((F _ hKb (nsK hns)).run callerA [] s1 H ⟨[.ref a], []⟩ [.ref a] [.ref a] _ _ hr rfl e0 (hbind s1 (.ref a)) (.cons rfl .nil) (hsp H hS)) fun r s' h => ?_
    match r, h with
    | .error e, h =>
      obtain ⟨_, _, _, _, _, _, _, _, _, _, _, _, z⟩ := h
      exact z.elim
    | .ok .next, h => exact False.elim h
    | .ok .brk, h => exact False.elim h
    | .ok .cont, h => exact False.elim h
    | .ok (.ret u), ⟨v, H', os, bare, un, hok', r', q⟩ =>
      subst q
      obtain rfl : u = Value.bool true := r'
      refine ⟨rfl, OldK.of_keep fun b o e => ?_, os, bare⟩
      cases q : H b with
      | none => exact un.keep b o e q (fun z => (by cases (show b ∈ ([] : List Addr) from z))) (by simp)
      | some y =>
        obtain ⟨_, _, ob, xs, rfl⟩ := hO b y q
        have e2 := (hok' b _ (un.frzs b ob _ q)).1
        have e1 := (hok b _ q).1
        rw [e] at e1
        cases e1
        exact e2
  cases hk : K.lookup a with
  | some o =>
    have e := KX a o hk
    rw [ha] at e
    cases e
    exact go (fun _ => none) (fun _ _ z => by cases (show (none : Option HO) = some _ from z)) (.inr ⟨_, vs.toArray, _, hk, rfl, rfl, rfl, by rw [List.size_toArray, lenV]; exact hl, by simpa using vals_ints hi⟩) (fun _ _ z => by cases (show (none : Option HO) = some _ from z))
  | none =>
    have key : ∀ (b : Addr) (u : HO), (if b = a then some (HO.frz { cls := .type "list", data := .seq vs.toArray } (.lst (ns.map V.int))) else none) = some u → b = a ∧ u = HO.frz { cls := .type "list", data := .seq vs.toArray } (.lst (ns.map V.int)) := fun b u z => by
      by_cases h : b = a
      · rw [if_pos h] at z
        exact ⟨h, (Option.some.inj z).symm⟩
      · rw [if_neg h] at z
        cases z
    refine go (fun b => if b = a then some (.frz { cls := .type "list", data := .seq vs.toArray } (.lst (ns.map V.int))) else none) (fun b u z => ?_) (.inl ⟨_, if_pos rfl⟩) (fun b u z => ?_)
    · obtain ⟨h1, h2⟩ := key b u z
      exact ⟨h1, hk, _, _, h2⟩
    · obtain ⟨h1, h2⟩ := key b u z
      subst h1 h2
      exact ⟨ha, by rw [List.length_map]; exact hl, vs, _, vals_ints hi, ha⟩
end PV
set_option Elab.async false
set_option linter.all false
set_option autoImplicit false
set_option maxRecDepth 100000
set_option maxHeartbeats 4000000
namespace PV
open PySem PySem.Spec PyProof.Rows L2
theorem look_app {α : Type} (n : Str) : ∀ (a b : List (Str × α)), (a ++ b).lookup n = match a.lookup n with
    | some v => some v
    | none => b.lookup n
  | [], b => rfl
  | (k, v) :: a, b => by
    rw [List.cons_append, List.lookup_cons, List.lookup_cons]
    cases n == k with
    | true => rfl
    | false => exact look_app n a b
theorem kw_loop' {α : Type} {body : Str × Value → List (Str × Value) × α → Sem (ForInStep (List (Str × Value) × α))} {x : α} {ok : Str → Prop} (hb : ∀ k v S, S.lookup k = none → ok k → body (k, v) (S, x) = pure (.yield (S ++ [(k, v)], x))) :
    ∀ (kv : List (Str × Value)) (S : List (Str × Value)), (∀ q ∈ kv, ok q.1 ∧ S.lookup q.1 = none) → (kv.map (·.1)).Nodup → forIn kv (S, x) body = pure (S ++ kv, x)
  | [], S, _, _ => by simp
  | (k, v) :: kv, S, h, nd => by
    have h0 := h (k, v) List.mem_cons_self
    rw [List.map_cons, List.nodup_cons] at nd
    have ih := kw_loop' hb kv (S ++ [(k, v)]) (fun q hq => ⟨(h q (List.mem_cons_of_mem _ hq)).1, by
      rw [look_app, (h q (List.mem_cons_of_mem _ hq)).2]
      simp only [List.lookup]
      have : (q.1 == k) = false := by
        rw [beq_eq_false_iff_ne]
        intro z
        exact nd.1 (List.mem_map.mpr ⟨q, hq, z⟩)
      rw [this]⟩) nd.2
    rw [List.forIn_cons, hb k v S h0.2 h0.1]
    simp only [pure_bind]
    rw [ih]
    simp
def addD {α : Type} (S : List (Str × α)) : List (Str × α) → List (Str × α)
  | [] => S
  | (n, d) :: r => addD (if (S.lookup n).isNone then S ++ [(n, d)] else S) r
theorem addD_look {α : Type} (n : Str) : ∀ (l S : List (Str × α)), (addD S l).lookup n = (S ++ l).lookup n
  | [], S => by simp [addD]
  | (m, d) :: l, S => by
    rw [addD, addD_look n l]
    rw [look_app, look_app]
    cases hm : S.lookup m with
    | none =>
      simp only [Option.isNone_none, if_true]
      rw [look_app]
      simp only [List.lookup]
      cases hn : S.lookup n with
      | some v => rfl
      | none =>
        simp only
        cases n == m <;> rfl
    | some v =>
      simp only [Option.isNone_some, Bool.false_eq_true, if_false]
      cases hn : S.lookup n with
      | some v => rfl
      | none =>
        simp only [List.lookup]
        have : (n == m) = false := by
          rw [beq_eq_false_iff_ne]
          intro z
          subst z
          rw [hm] at hn
          cases hn
        rw [this]
theorem df_loop : ∀ (l S : List (Str × Value)), (forIn l S fun x S => if (List.lookup x.fst S).isNone = true then (pure (ForInStep.yield (S ++ [(x.fst, x.snd)])) : Sem (ForInStep (List (Str × Value)))) else pure (ForInStep.yield S)) = pure (addD S l)
  | [], S => by simp [addD]
  | (n, d) :: l, S => by
    rw [List.forIn_cons]
    cases h : (S.lookup n).isNone with
    | true =>
      simp only [h, if_true, pure_bind]
      rw [df_loop l]
      simp [addD, h]
    | false =>
      simp only [h, Bool.false_eq_true, if_false, pure_bind]
      rw [df_loop l]
      simp [addD, h]
theorem ko_loop {K : PySem.W.Frag} {M : Model} {h : Heap} {D : Addr} (X : K.In h) : ∀ (kos : List (Str × Value)) (S : List (Str × Value)), (∀ q ∈ kos, PySem.W.nsIn K D q.1 = some (some q.2)) →
    PySem.W.Looks M h (forIn (kos.map (·.1)) (S, ([] : List Str)) fun name s =>
      if (List.lookup name s.fst).isNone = true then do
        let dflt ← nsGet D name
        match dflt with
          | some v => pure (ForInStep.yield (s.fst ++ [(name, v)], s.snd))
          | none => pure (ForInStep.yield (s.fst, s.snd ++ [name]))
      else pure (ForInStep.yield (s.fst, s.snd))) (addD S kos, [])
  | [], S, _ => by
    rw [List.map_nil, List.forIn_nil]
    exact .of_pure rfl
  | (n, d) :: kos, S, hk => by
    rw [List.map_cons, List.forIn_cons]
    cases hn : (S.lookup n).isNone with
    | true =>
      simp only [hn, if_true, bind_assoc]
      refine (PySem.W.looks_nsIn X (hk (n, d) List.mem_cons_self)).andThen ?_
      simp only [pure_bind]
      have := ko_loop X (M := M) kos (S ++ [(n, d)]) fun q hq => hk q (List.mem_cons_of_mem _ hq)
      simpa [addD, hn] using this
    | false =>
      simp only [hn, Bool.false_eq_true, if_false, pure_bind]
      have := ko_loop X (M := M) kos S fun q hq => hk q (List.mem_cons_of_mem _ hq)
      simpa [addD, hn] using this
theorem bind_gen {K : PySem.W.Frag} {M : Model} {h : Heap} (X : K.In h) {fd : FuncData} {ps : List Str} {kos : List (Str × Value)} {its us ws : List Value} {ks : List Str} (h1 : fd.params.posonlyargs = []) (h2 : fd.params.args.map (·.arg) = ps) (h3 : fd.params.vararg = none) (h4 : fd.params.kwonlyargs.map (·.arg) = kos.map (·.1)) (h5 : fd.params.kwarg = none)
    (hd : (fd.defaults = .none ∧ its = []) ∨ ∃ (T : Addr) (o : Obj) (n : Nat), fd.defaults = .ref T ∧ K.lookup T = some o ∧ o.data = .seq its.toArray n) (hk : kos = [] ∨ ∃ D : Addr, fd.kwdefaults = .ref D ∧ ∀ q ∈ kos, PySem.W.nsIn K D q.1 = some (some q.2))
    (hl : us.length ≤ ps.length) (hi : its.length ≤ ps.length) (hks : ks.Nodup) (hk1 : ∀ k ∈ ks, k ∈ ps ∨ k ∈ kos.map (·.1)) (hk2 : ∀ k ∈ ks, (ps.zip us).lookup k = none) (hw : ws.length = ks.length)
    (hm : ∀ n ∈ ps.take (ps.length - its.length), ((ps.zip us ++ ks.zip ws).lookup n).isSome = true) :
    PySem.W.Looks M h (bindArgs fd ⟨us, ks.zip ws⟩) ((ps ++ kos.map (·.1)).filterMap fun n => ((ps.zip us ++ ks.zip ws ++ (ps.drop (ps.length - its.length)).zip its ++ kos).lookup n).map (n, ·)) := by
  have hz : (ks.zip ws).map (·.1) = ks := by
    rw [List.map_fst_zip]
    omega
  unfold bindArgs
  simp only [h1, h2, h3, h4, h5, List.map_nil, List.nil_append, List.append_nil, Option.isSome_none, Option.isNone_none]
  rw [kw_loop' (ok := fun k => (ps.contains k || (kos.map (·.1)).contains k) = true) (fun k v S e1 e2 => by
    simp only [e1, e2, if_true, Option.isSome_none, Bool.false_eq_true, if_false]) (ks.zip ws) (ps.zip us) (fun q hq => by
      have : q.1 ∈ ks := by rw [← hz]; exact List.mem_map.mpr ⟨q, hq, rfl⟩
      refine ⟨?_, hk2 _ this⟩
      rw [Bool.or_eq_true]
      rcases hk1 _ this with z | z
      · exact .inl (by simpa using z)
      · exact .inr (by simpa using z)) (by rw [hz]; exact hks)]
  simp only [pure_bind]
  have items : PySem.W.Looks M h (seqItems? fd.defaults) (if its.isEmpty = true ∧ fd.defaults = .none then none else some its.toArray) := by
    rcases hd with ⟨e1, e2⟩ | ⟨T, o, n, e1, e2, e3⟩
    · rw [e1, e2]
      exact .of_pure rfl
    · rw [e1, if_neg (fun z => nomatch z.2)]
      have := looks_items (M := M) (h := h) (k := fun x => pure x) (r := some its.toArray) X e2 e3 (.of_pure rfl)
      simpa using this
  refine items.andThen ?_
  have dl : ((if its.isEmpty = true ∧ fd.defaults = .none then none else some its.toArray : Option (Array Value)).getD #[]).toList = its := by
    split
    · rename_i z
      have : its = [] := by simpa using z.1
      rw [this]
      rfl
    · rfl
  rw [dl]
  have hg : ¬ us.length > ps.length := by omega
  have hdz : its.length - ps.length = 0 := by omega
  simp only [hg, decide_false, Bool.false_and, Bool.false_eq_true, if_false, hdz, List.drop_zero]
  have hmm : (List.filter (fun n => (List.lookup n (ps.zip us ++ ks.zip ws)).isNone) (List.take (ps.length - its.length) ps)) = [] := by
    rw [List.filter_eq_nil_iff]
    intro n hn
    have := hm n hn
    cases e : (ps.zip us ++ ks.zip ws).lookup n with
    | none => rw [e] at this; cases this
    | some v => simp
  simp only [hmm, List.isEmpty_nil, Bool.not_true, Bool.false_eq_true, if_false]
  rw [df_loop]
  simp only [pure_bind]
  have fin : ∀ S : List (Str × Value), (∀ n, S.lookup n = (ps.zip us ++ ks.zip ws ++ (ps.drop (ps.length - its.length)).zip its ++ kos).lookup n) → (List.filterMap (fun n => Option.map (fun x => (n, x)) (List.lookup n S)) (ps ++ kos.map (·.1))) = ((ps ++ kos.map (·.1)).filterMap fun n => ((ps.zip us ++ ks.zip ws ++ (ps.drop (ps.length - its.length)).zip its ++ kos).lookup n).map (n, ·)) := fun S hS => by
    congr 1
    funext n
    rw [hS]
  rcases hk with rfl | ⟨D, e1, e2⟩
  · rw [List.map_nil, List.forIn_nil]
    simp only [pure_bind, List.isEmpty_nil, Bool.not_true, Bool.false_eq_true, if_false]
    refine .of_pure (congrArg pure ?_)
    exact fin _ fun n => by rw [addD_look]; simp
  · rw [e1]
    refine (ko_loop X kos _ e2).andThen ?_
    simp only [List.isEmpty_nil, Bool.not_true, Bool.false_eq_true, if_false]
    refine .of_pure (congrArg pure ?_)
    exact fin _ fun n => by
      rw [addD_look, look_app, addD_look, ← look_app]
def KvR {α β : Type} (G : α → β → Prop) : List (Str × α) → List (Str × β) → Prop := Paired fun p q => p.1 = q.1 ∧ G p.2 q.2
theorem KvR.app {α β : Type} {G : α → β → Prop} : ∀ {a : List (Str × α)} {b : List (Str × β)} {c : List (Str × α)} {d : List (Str × β)}, KvR G a b → KvR G c d → KvR G (a ++ c) (b ++ d)
  | _, _, _, _, .nil, h => h
  | _, _, _, _, .cons x t, h => .cons x (KvR.app t h)
theorem KvR.zip {α β : Type} {G : α → β → Prop} : ∀ (ns : List Str) {a : List α} {b : List β}, Paired G a b → KvR G (ns.zip a) (ns.zip b)
  | [], _, _, _ => by rw [List.zip_nil_left, List.zip_nil_left]; exact .nil
  | n :: ns, _, _, .nil => by rw [List.zip_nil_right, List.zip_nil_right]; exact .nil
  | n :: ns, _, _, .cons x t => .cons ⟨rfl, x⟩ (KvR.zip ns t)
theorem KvR.look {α β : Type} {G : α → β → Prop} {n : Str} {d : α} : ∀ {a : List (Str × α)} {b : List (Str × β)}, KvR G a b → a.lookup n = some d → ∃ u, b.lookup n = some u ∧ G d u
  | _, _, .nil, h => by cases h
  | (k, x) :: a, (k', y) :: b, .cons ⟨e, g⟩ t, h => by
    have e' : k = k' := e
    subst e'
    rw [List.lookup_cons] at h ⊢
    cases hk : n == k with
    | true =>
      rw [hk] at h
      cases h
      exact ⟨y, rfl, g⟩
    | false =>
      rw [hk] at h
      exact KvR.look t h
theorem arrV_rel {α β : Type} {G : α → β → Prop} {pn : List Str} {a : List (Str × α)} {b : List (Str × β)} (h : KvR G a b) : ∀ {ns : List Str} {ds : List α}, arrV pn a ns = some ds → ∃ us, arrV pn b ns = some us ∧ Paired G ds us
  | [], ds, e => by
    cases e
    exact ⟨[], rfl, .nil⟩
  | n :: ns, ds, e => by
    rw [arrV] at e
    split at e
    · rename_i d dr e1 e2
      cases e
      obtain ⟨u, h1, h2⟩ := h.look e1
      obtain ⟨us, k1, k2⟩ := arrV_rel h e2
      exact ⟨u :: us, by rw [arrV, h1, k1], .cons h2 k2⟩
    · cases e
theorem arrV_zip {pn : List Str} {kv : List (Str × Value)} : ∀ {ns : List Str} {us : List Value}, arrV pn kv ns = some us → (ns.filterMap fun n => (kv.lookup n).map (n, ·)) = ns.zip us ∧ us.length = ns.length ∧ ∀ n ∈ ns, (kv.lookup n).isSome = true
  | [], us, e => by
    cases e
    exact ⟨rfl, rfl, fun n h => by cases h⟩
  | n :: ns, us, e => by
    rw [arrV] at e
    split at e
    · rename_i d dr e1 e2
      cases e
      obtain ⟨k1, k2, k3⟩ := arrV_zip e2
      refine ⟨by rw [List.filterMap_cons, e1]; simp [k1], by simp [k2], fun m hm => ?_⟩
      rcases List.mem_cons.mp hm with rfl | hm
      · rw [e1]; rfl
      · exact k3 m hm
    · cases e
def Stands (K : PySem.W.Frag) (r : RA) (H : Hp) (d : D) (u : Value) : Prop := ∃ v, Rep K r H d v ∧ RelV v u
theorem stands_of {K : PySem.W.Frag} {r : RA} {H : Hp} : ∀ {ds : List D} {vs : List V} {us : List Value}, RepL K r H ds vs → Vals vs us → Paired (Stands K r H) ds us
  | [], vs, us, h, r => by
    cases (show vs = [] from h)
    cases r
    exact .nil
  | d :: ds, vs, us, h, r => by
    obtain ⟨v, vr, rfl, h1, h2⟩ := h
    cases r with
    | cons r1 r2 => exact .cons ⟨v, h1, r1⟩ (stands_of h2 r2)
theorem stands_to {K : PySem.W.Frag} {r : RA} {H : Hp} : ∀ {ds : List D} {us : List Value}, Paired (Stands K r H) ds us → ∃ vs, RepL K r H ds vs ∧ Vals vs us
  | _, _, .nil => ⟨[], rfl, .nil⟩
  | _, _, .cons ⟨v, h1, h2⟩ t => by
    obtain ⟨vs, k1, k2⟩ := stands_to t
    exact ⟨v :: vs, ⟨v, vs, rfl, h1, k1⟩, .cons h2 k2⟩
def KaOk (K : PySem.W.Frag) (fd : FuncData) (ps : List Str) (a : ArI) : Prop := a.pn = ps ∧ ∃ dU : List (Str × Value), (∀ (r : RA) (H : Hp), KvR (Stands K r H) a.dfl dU) ∧
  ∀ (s : Shared) (us ws zs : List Value) (ks : List Str), K.In s.heap → arrB a us.length ks = true → ws.length = ks.length → arrV a.pn (a.pn.zip us ++ ks.zip ws ++ dU) a.pn = some zs → BindsTo s fd ⟨us, ks.zip ws⟩ (ps.zip zs)
theorem arr_ok {K : PySem.W.Frag} {fd : FuncData} {ps : List Str} {a : ArI} (h : KaOk K fd ps a) {r : RA} {H : Hp} {xs ys zs : List D} {vs ws : List V} {us uw : List Value} {ks : List Str} (e : arr a xs ks ys = some zs) (h1 : RepL K r H xs vs) (r1 : Vals vs us) (h2 : RepL K r H ys ws) (r2 : Vals ws uw) {s : Shared} (X : K.In s.heap) :
    ∃ zv zu, RepL K r H zs zv ∧ Vals zv zu ∧ BindsTo s fd ⟨us, ks.zip uw⟩ (ps.zip zu) := by
  obtain ⟨e1, dU, hd, hb⟩ := h
  unfold arr at e
  split at e
  · rename_i hg
    rw [Bool.and_eq_true, decide_eq_true_eq] at hg
    have p1 := stands_of h1 r1
    have p2 := stands_of h2 r2
    obtain ⟨zu, k1, k2⟩ := arrV_rel (((KvR.zip a.pn p1).app (KvR.zip ks p2)).app (hd r H)) e
    obtain ⟨zv, k3, k4⟩ := stands_to k2
    have l1 : us.length = xs.length := by rw [← r1.length, RepL.length h1]
    have l2 : uw.length = ks.length := by rw [← r2.length, RepL.length h2, hg.2]
    exact ⟨zv, zu, k3, k4, hb s us uw zu ks X (by rw [l1]; exact hg.1) l2 k1⟩
  · cases e
theorem zip_left {α : Type} : ∀ {a b : List Str} {us : List α}, us.length ≤ a.length → (a ++ b).zip us = a.zip us
  | [], b, [], _ => by simp
  | [], b, _ :: _, h => by simp at h
  | x :: a, b, [], _ => by simp
  | x :: a, b, u :: us, h => by
    rw [List.cons_append, List.zip_cons_cons, List.zip_cons_cons, zip_left (by simpa using h)]
theorem look_none {α : Type} {n : Str} : ∀ {kv : List (Str × α)}, n ∉ kv.map (·.1) → kv.lookup n = none
  | [], _ => rfl
  | (k, v) :: kv, h => by
    rw [List.map_cons, List.mem_cons, not_or] at h
    rw [List.lookup_cons]
    have : (n == k) = false := by
      rw [beq_eq_false_iff_ne]
      exact h.1
    rw [this]
    exact look_none h.2
theorem zip_keys {α : Type} {n : Str} : ∀ {ps : List Str} {us : List α}, n ∉ ps.take us.length → n ∉ (ps.zip us).map (·.1)
  | [], us, _ => by simp
  | p :: ps, [], _ => by simp
  | p :: ps, u :: us, h => by
    rw [List.length_cons, List.take_succ_cons, List.mem_cons, not_or] at h
    rw [List.zip_cons_cons, List.map_cons, List.mem_cons, not_or]
    exact ⟨h.1, zip_keys h.2⟩
theorem zip_fst_sub {α : Type} {n : Str} : ∀ {ps : List Str} {us : List α}, n ∈ (ps.zip us).map (·.1) → n ∈ ps
  | [], us, h => by simp at h
  | p :: ps, [], h => by simp at h
  | p :: ps, u :: us, h => by
    rw [List.zip_cons_cons, List.map_cons, List.mem_cons] at h
    rcases h with h | h
    · exact h ▸ List.mem_cons_self
    · exact List.mem_cons_of_mem _ (zip_fst_sub h)
def DfV (K : PySem.W.Frag) (d : D) (v : V) : Prop := ∀ (r : RA) (H : Hp), Rep K r H d v
theorem dfl_zip {K : PySem.W.Frag} {r : RA} {H : Hp} : ∀ (ns : List Str) {ds : List D} {vs : List V} {us : List Value}, Paired (DfV K) ds vs → Vals vs us → KvR (Stands K r H) (ns.zip ds) (ns.zip us)
  | [], _, _, _, _, _ => by rw [List.zip_nil_left, List.zip_nil_left]; exact .nil
  | n :: ns, _, _, _, .nil, .nil => by rw [List.zip_nil_right, List.zip_nil_right]; exact .nil
  | n :: ns, _, _, _, .cons x t, .cons y u => .cons ⟨rfl, _, x r H, y⟩ (dfl_zip ns t u)
theorem kwd_rel {K : PySem.W.Frag} {D0 : Addr} {r : RA} {H : Hp} : ∀ {ks : List (Str × D)} {ms : List (Str × V)}, KvR (DfV K) ks ms → (∀ q ∈ ms, ∃ u, PySem.W.nsIn K D0 q.1 = some (some u) ∧ RelV q.2 u) →
    ∃ kos : List (Str × Value), kos.map (·.1) = ms.map (·.1) ∧ (∀ r H, KvR (Stands K r H) ks kos) ∧ ∀ q ∈ kos, PySem.W.nsIn K D0 q.1 = some (some q.2)
  | _, _, .nil, _ => ⟨[], rfl, fun _ _ => .nil, fun q hq => by cases hq⟩
  | (k, d) :: ks, (m, v) :: ms, .cons ⟨e, x⟩ t, h => by
    obtain ⟨u, e1, e2⟩ := h (m, v) List.mem_cons_self
    obtain ⟨kos, k1, k2, k3⟩ := kwd_rel (r := r) (H := H) t fun q hq => h q (List.mem_cons_of_mem _ hq)
    refine ⟨(m, u) :: kos, by simp [k1], fun r H => .cons ⟨e, v, x r H, e2⟩ (k2 r H), fun q hq => ?_⟩
    rcases List.mem_cons.mp hq with rfl | hq
    · exact e1
    · exact k3 q hq
theorem ka_of {K : PySem.W.Frag} {fd : FuncData} {ps : List Str} {dflD : List D} {kwD : List (Str × D)} {dvs : List V} {kws : List (Str × V)} (h1 : fd.params.posonlyargs = []) (h2 : fd.params.args.map (·.arg) = ps) (h3 : fd.params.vararg = none) (h4 : fd.params.kwonlyargs.map (·.arg) = kwD.map (·.1)) (h5 : fd.params.kwarg = none)
    (hd : DflV K fd.defaults dvs) (hk : KwdV K fd.kwdefaults kws) (rd : Paired (DfV K) dflD dvs) (rk : KvR (DfV K) kwD kws) (hi : dflD.length ≤ ps.length) (nd : (ps ++ kwD.map (·.1)).Nodup) :
    KaOk K fd (ps ++ kwD.map (·.1)) ⟨ps ++ kwD.map (·.1), ps.length, (ps.drop (ps.length - dflD.length)).zip dflD ++ kwD⟩ := by
  have keyEq : ∀ {a : List (Str × D)} {b : List (Str × V)}, KvR (DfV K) a b → a.map (·.1) = b.map (·.1) := fun {a b} h => by
    induction h with
    | nil => rfl
    | cons x _ ih => rw [List.map_cons, List.map_cons, x.1, ih]
  obtain ⟨its, hits, rits, l1⟩ : ∃ its : List Value, ((fd.defaults = .none ∧ its = []) ∨ ∃ (T : Addr) (o : Obj) (n : Nat), fd.defaults = .ref T ∧ K.lookup T = some o ∧ o.data = .seq its.toArray n) ∧ Vals dvs its ∧ its.length = dflD.length := by
    have ll : dflD.length = dvs.length := by
      clear hd hi
      induction rd with
      | nil => rfl
      | cons _ _ ih => simp [ih]
    rcases hd with ⟨e1, e2⟩ | ⟨_, T, o, its, n, e1, e2, e3, e4⟩
    · subst e1
      exact ⟨[], .inl ⟨e2, rfl⟩, .nil, by simpa using ll.symm⟩
    · exact ⟨its, .inr ⟨T, o, n, e1, e2, e3⟩, e4, by rw [← e4.length, ll]⟩
  obtain ⟨kos, hkos, k1, k2⟩ : ∃ kos : List (Str × Value), kos.map (·.1) = kwD.map (·.1) ∧ (∀ r H, KvR (Stands K r H) kwD kos) ∧ (kos = [] ∨ ∃ D : Addr, fd.kwdefaults = .ref D ∧ ∀ q ∈ kos, PySem.W.nsIn K D q.1 = some (some q.2)) := by
    rcases hk with e | ⟨D0, e1, e2⟩
    · subst e
      cases rk
      exact ⟨[], rfl, fun _ _ => .nil, .inl rfl⟩
    · obtain ⟨kos, k1, k2, k3⟩ := kwd_rel (r := []) (H := fun _ => none) rk e2
      exact ⟨kos, by rw [k1, ← keyEq rk], k2, .inr ⟨D0, e1, k3⟩⟩
  refine ⟨rfl, (ps.drop (ps.length - dflD.length)).zip its ++ kos, fun r H => (dfl_zip _ rd rits).app (k1 r H), fun s us ws zs ks X hB hw hz => ?_⟩
  simp only [arrB, Bool.and_eq_true, decide_eq_true_eq, List.all_eq_true, Bool.not_eq_true'] at hB
  obtain ⟨⟨⟨b1, b2⟩, b3⟩, b4⟩ := hB
  dsimp only at b1 b3 b4 hz
  rw [zip_left b1] at hz
  obtain ⟨z1, z2, z3⟩ := arrV_zip hz
  have hk2 : ∀ k ∈ ks, (ps.zip us).lookup k = none := fun k hk => look_none (zip_keys fun z => by
    have := b4 k hk
    rw [List.take_append_of_le_length b1] at this
    simp [z] at this)
  have main := fun M => bind_gen (M := M) X (us := us) (ws := ws) (ks := ks) h1 h2 h3 (h4.trans hkos.symm) h5 hits k2 b1 (by omega) b2 (fun k hk => by
      have := b3 k hk
      rw [List.contains_iff_mem, List.mem_append] at this
      rw [hkos]
      exact this) hk2 hw (fun n hn => by
        have hp : n ∈ ps := List.mem_of_mem_take hn
        have q := z3 n (List.mem_append.mpr (.inl hp))
        rw [← List.append_assoc, look_app, look_app] at q
        cases e : (ps.zip us ++ ks.zip ws).lookup n with
        | some v => rfl
        | none =>
          rw [e] at q
          simp only at q
          have n1 : ((ps.drop (ps.length - dflD.length)).zip its).lookup n = none := look_none fun z => by
            have z' := zip_fst_sub z
            have nps : ps.Nodup := (List.nodup_append.mp nd).1
            rw [← List.take_append_drop (ps.length - dflD.length) ps, List.nodup_append] at nps
            rw [l1] at hn
            exact nps.2.2 n hn n z' rfl
          have n2 : kos.lookup n = none := look_none fun z => by
            rw [hkos] at z
            exact (List.nodup_append.mp nd).2.2 n hp n z rfl
          rw [n1] at q
          simp only [n2] at q
          cases q)
  refine BindsTo.of_looks fun M => ?_
  have := main M
  rw [hkos, l1] at this
  rw [← List.append_assoc] at z1
  rw [z1] at this
  exact this
section
variable {X : Cx} {k : Nat} {f : Addr} {fd : FuncData} {ps ks : List Str} {sp : Sp} {W : WX} {x : Str} {p pos : Pos} {es : List Expr} {kws : List Keyword} {t tk : TA} {a : ArI}
theorem run_gk {pins : List (Addr × Obj)} {σ : L2.St} {H : Hp} {s : Shared} {Q : VK} {us uw zu : List Value} {zv : List V} (F : FnG X.prog X.w X.K X.mg X.base k f fd ps sp) (hr : Room k X.A) (hg : X.A.guards = some []) (hb : BindsTo s fd ⟨us, ks.zip uw⟩ (ps.zip zu))
    (tk : Takes X W) (I : Inv X pins σ H s) (r : Vals zv zu) (h : sp zv H Q fun c d H' => W c d σ H') : wpAny (model X.prog X.w) X.A (PySem.call (.ref f) us (ks.zip uw)) (EP X pins σ Q) X.xe s := by
  refine wpAny_call (codeAny_mono (F.run X.A X.stack s H ⟨us, ks.zip uw⟩ zu zv Q _ hr hg I.env0 hb r h) fun res s' hq => ?_)
  match res, hq with
  | .error u, hq => exact tk u s' (XE.of_call I (fun _ _ _ z => z) hq)
  | .ok (.ret u), hq => exact I.after hq
  | .ok .next, hq => exact False.elim hq
  | .ok .brk, hq => exact False.elim hq
  | .ok .cont, hq => exact False.elim hq
def tKW (K : PySem.W.Frag) (a : ArI) (ks : List Str) (sp : Sp) (W : WX) (t tk : TA) : TE := fun σ H Q => t σ H fun vs H1 => tk σ H1 fun ws H2 => ∃ (r : RA) (xs ys zs : List D), RepL K r H2 xs vs ∧ RepL K r H2 ys ws ∧ arr a xs ks ys = some zs ∧ ∀ zv, RepL K r H2 zs zv → sp zv H2 Q fun c d H' => W c d σ H'
theorem pe_gk {e : Expr} {rest : List Expr} (F : FnG X.prog X.w X.K X.mg X.base k f fd ps sp) (hr : Room k X.A) (hgd : X.A.guards = some []) (hg : Gl X x) (hm : X.mg x = some (.ref f)) (hk : PySem.W.keepIn X.K (.ref f) = true) (hb : KaOk X.K fd ps a) (htk : Takes X W)
    (ha : PA X (e :: rest) t) (hkw : PK X kws tk) (hall : (backToKw pos (keywordEach kws X.env)).all (·.1.isSome) = true) (hks : (backToKw pos (keywordEach kws X.env)).filterMap (·.1) = ks) (hdb : (x == ("__debug__" : Str)) = false) (he : starEach (e :: rest) X.env = (false, eval e X.env) :: starEach rest X.env)
    (hpl : ((backTo pos (starEach (e :: rest) X.env)).any (·.1) || (backToKw pos (keywordEach kws X.env)).any (·.1.isNone)) = false) : PE X (.Call (.Name x p) (e :: rest) kws pos) (tKW X.K a ks sp W t tk) := by
  refine ⟨fun pins s σ H Q I h => ?_⟩
  refine wpAny_Call_Name_kw (ld_glob I hg hm ?_ hdb)
  refine PySem.W.callWith_KW (h₀ := X.base) I.ok.mod.kin hk hall (thn (ha.run pos pins s σ H _ I h) fun us s1 ⟨vs, H1, I1, r, q⟩ => ?_) hpl he
  refine thn (hkw.run pos pins s1 σ H1 _ I1 q) fun uw s2 ⟨ws, H2, I2, rz, rr, xs, ys, zs, q1, q2, q3, q4⟩ => ⟨I2.kIn, ?_⟩
  rw [hks]
  obtain ⟨zv, zu, k1, k2, k3⟩ := arr_ok hb q3 q1 r q2 rz I2.kIn
  exact run_gk F hr hgd k3 htk I2 k2 (q4 zv k1)
theorem pe_gk0 (F : FnG X.prog X.w X.K X.mg X.base k f fd ps sp) (hr : Room k X.A) (hgd : X.A.guards = some []) (hg : Gl X x) (hm : X.mg x = some (.ref f)) (hk : PySem.W.keepIn X.K (.ref f) = true) (hb : KaOk X.K fd ps a) (htk : Takes X W)
    (hkw : PK X kws tk) (hall : (backToKw pos (keywordEach kws X.env)).all (·.1.isSome) = true) (hks : (backToKw pos (keywordEach kws X.env)).filterMap (·.1) = ks) (hdb : (x == ("__debug__" : Str)) = false)
    (hpl : ((backTo pos (starEach [] X.env)).any (·.1) || (backToKw pos (keywordEach kws X.env)).any (·.1.isNone)) = false) : PE X (.Call (.Name x p) [] kws pos) (tKW X.K a ks sp W tNil tk) := by
  refine ⟨fun pins s σ H Q I h => ?_⟩
  refine wpAny_Call_Name_kw (ld_glob I hg hm ?_ hdb)
  refine PySem.W.callWith_KW0 (h₀ := X.base) I.ok.mod.kin hk hall ?_ hpl
  refine thn (hkw.run pos pins s σ H _ I h) fun uw s2 ⟨ws, H2, I2, rz, rr, xs, ys, zs, q1, q2, q3, q4⟩ => ⟨I2.kIn, ?_⟩
  rw [hks]
  obtain ⟨zv, zu, k1, k2, k3⟩ := arr_ok (us := []) hb q3 q1 .nil q2 rz I2.kIn
  exact run_gk (us := []) F hr hgd k3 htk I2 k2 (q4 zv k1)
end
end PV
set_option Elab.async false
set_option linter.all false
set_option autoImplicit false
set_option maxRecDepth 100000
set_option maxHeartbeats 1000000
namespace PV
open PySem PySem.Spec PyProof.Rows L2
theorem meth_call {prog : Program} {w : World} {A : Around} {E : Value → Shared → Prop} {s : Shared} {env : PySem.Env} {o : Expr} {name : Str} {apos pos : Pos} {args : List Expr} {kws : List Keyword} {Q : Value → Shared → Prop} (hb : attributeBase o name env (eval o env) = eval o env)
    (hf : methodCallForm (args.length + kws.length) (backTo pos (starEach args env)) (backToKw pos (keywordEach kws env)) = true) (hl : (apos.endLine == pos.line) = true)
    (h : wpAny (model prog w) A (eval o env) (fun ov s1 => ∀ pl, wpAny (model prog w) A (getMethod ov name pl) (fun fx s2 => wpAny (model prog w) A (callWith pos fx.1 fx.2 (backTo pos (starEach args env)) (backToKw pos (keywordEach kws env))) Q E s2) E s1) E s) :
    wpAny (model prog w) A (eval (.Call (.Attribute o name apos) args kws pos) env) Q E s := by
  have hpos : methodCallPos true o env apos pos = pure pos := by
    unfold methodCallPos
    rw [hl]
    rfl
  rw [arm_eval_Call, hb]
  refine wpAny_bind (wpAny_mono h (fun ov s1 h1 => wpAny_bind (wpAny_standAt ?_)) fun _ _ e => e)
  unfold methodCall
  rw [hf]
  exact wpAny_bind (wpAny_holding (wpAny_mono (h1 _) (fun fx s2 h2 => wpAny_bind (wpAny_of_eq hpos h2)) fun _ _ e => e))
section
variable {X : Cx} {k : Nat} {f C : Addr} {fd : FuncData} {ps ks : List Str} {sp : Sp} {W : WX} {x m : Str} {p pos apos : Pos} {es : List Expr} {kws : List Keyword} {t tk to : TA} {ta : TE} {a : ArI}
theorem run_new {pins : List (Addr × Obj)} {σ : L2.St} {H : Hp} {s : Shared} {Q : VK} {us uw : List Value} {vs ws : List V} (M : Mk X.K C f) (F : FnG X.prog X.w X.K X.mg X.base k f fd ps sp) (hr : Room (k + 1) X.A) (hg : X.A.guards = some []) (hb : KaOk X.K fd ps a) (htk : Takes X W)
    (I : Inv X pins σ H s) (rv : Vals vs us) (rw' : Vals ws uw)
    (h : ∀ y dy, H y = none → H dy = none → dy ≠ y → ∃ (r : RA) (xs ys zs : List D), RepL X.K r (upd (upd H dy (.own y)) y (.ins C dy [])) xs (.ref y :: vs) ∧ RepL X.K r (upd (upd H dy (.own y)) y (.ins C dy [])) ys ws ∧ arr a xs ks ys = some zs ∧
      ∀ zv, RepL X.K r (upd (upd H dy (.own y)) y (.ins C dy [])) zs zv → sp zv (upd (upd H dy (.own y)) y (.ins C dy [])) (fun v H2 => v = .non ∧ Q (.ref y) H2) fun c d H' => W c d σ H') :
    wpAny (model X.prog X.w) X.A (PySem.call (.ref C) us (ks.zip uw)) (EP X pins σ Q) X.xe s := by
  obtain ⟨r, xs, ys, zs, q1, q2, q3, q4⟩ := h (s.heap.objs.size + 1) s.heap.objs.size (I.hok.fresh (Nat.le_succ _)) (I.hok.fresh (Nat.le_refl _)) (Nat.ne_of_lt (Nat.lt_succ_self _))
  have J := Inv.made (C := C) I
  have rv' : Vals (V.ref (s.heap.objs.size + 1) :: vs) (Value.ref (s.heap.objs.size + 1) :: us) := .cons rfl rv
  obtain ⟨zv, zu, k1, k2, k3⟩ := arr_ok hb q3 q1 rv' q2 rw' J.kIn
  refine wpAny_call (make_map (f := f) I.kIn M.makes M.init (beq_iff_eq.mp M.fn) (codeAny_mono (F.run _ X.stack _ _ ⟨_ :: us, ks.zip uw⟩ zu zv _ _ (hr.make C us (ks.zip uw)) hg (J.env0.make C us (ks.zip uw)) k3 k2 (q4 zv k1)) fun res s' hq => ?_))
  match res, hq with
  | .error u, hq => exact htk u s' (XE.of_call J (fun _ _ _ z => z) hq)
  | .ok (.ret u), hq =>
    obtain ⟨v, H', J', rv, ev, q⟩ := J.after hq
    subst ev
    exact ⟨rv, V.ref (s.heap.objs.size + 1), H', J', rfl, q⟩
  | .ok .next, hq => exact False.elim hq
  | .ok .brk, hq => exact False.elim hq
  | .ok .cont, hq => exact False.elim hq
def tNew (K : PySem.W.Frag) (C : Addr) (a : ArI) (ks : List Str) (sp : Sp) (W : WX) (t tk : TA) : TE := fun σ H Q => t σ H fun vs H1 => tk σ H1 fun ws H2 => ∀ y dy, H2 y = none → H2 dy = none → dy ≠ y → ∃ (r : RA) (xs ys zs : List D), RepL K r (upd (upd H2 dy (.own y)) y (.ins C dy [])) xs (.ref y :: vs) ∧
  RepL K r (upd (upd H2 dy (.own y)) y (.ins C dy [])) ys ws ∧ arr a xs ks ys = some zs ∧ ∀ zv, RepL K r (upd (upd H2 dy (.own y)) y (.ins C dy [])) zs zv → sp zv (upd (upd H2 dy (.own y)) y (.ins C dy [])) (fun v H3 => v = .non ∧ Q (.ref y) H3) fun c d H' => W c d σ H'
theorem pe_new {e : Expr} {rest : List Expr} (M : Mk X.K C f) (F : FnG X.prog X.w X.K X.mg X.base k f fd ps sp) (hr : Room (k + 1) X.A) (hgd : X.A.guards = some []) (hg : Gl X x) (hm : X.mg x = some (.ref C)) (hb : KaOk X.K fd ps a) (htk : Takes X W)
    (ha : PA X (e :: rest) t) (hkw : PK X kws tk) (hall : (backToKw pos (keywordEach kws X.env)).all (·.1.isSome) = true) (hks : (backToKw pos (keywordEach kws X.env)).filterMap (·.1) = ks) (hdb : (x == ("__debug__" : Str)) = false) (he : starEach (e :: rest) X.env = (false, eval e X.env) :: starEach rest X.env)
    (hpl : ((backTo pos (starEach (e :: rest) X.env)).any (·.1) || (backToKw pos (keywordEach kws X.env)).any (·.1.isNone)) = false) : PE X (.Call (.Name x p) (e :: rest) kws pos) (tNew X.K C a ks sp W t tk) :=
  ⟨fun pins s σ H Q I h => wpAny_Call_Name_kw (ld_glob I hg hm (PySem.W.callWith_KW (h₀ := X.base) I.ok.mod.kin M.kp hall (thn (ha.run pos pins s σ H _ I h) fun us s1 ⟨vs, H1, I1, r, q⟩ => thn (hkw.run pos pins s1 σ H1 _ I1 q) fun uw s2 ⟨ws, H2, I2, rz, q2⟩ => ⟨I2.kIn, by
    rw [hks]
    exact run_new M F hr hgd hb htk I2 r rz q2⟩) hpl he) hdb)⟩
theorem pe_new0 (M : Mk X.K C f) (F : FnG X.prog X.w X.K X.mg X.base k f fd ps sp) (hr : Room (k + 1) X.A) (hgd : X.A.guards = some []) (hg : Gl X x) (hm : X.mg x = some (.ref C)) (hb : KaOk X.K fd ps a) (htk : Takes X W)
    (hkw : PK X kws tk) (hall : (backToKw pos (keywordEach kws X.env)).all (·.1.isSome) = true) (hks : (backToKw pos (keywordEach kws X.env)).filterMap (·.1) = ks) (hdb : (x == ("__debug__" : Str)) = false)
    (hpl : ((backTo pos (starEach [] X.env)).any (·.1) || (backToKw pos (keywordEach kws X.env)).any (·.1.isNone)) = false) : PE X (.Call (.Name x p) [] kws pos) (tNew X.K C a ks sp W tNil tk) :=
  ⟨fun pins s σ H Q I h => wpAny_Call_Name_kw (ld_glob I hg hm (PySem.W.callWith_KW0 (h₀ := X.base) I.ok.mod.kin M.kp hall (thn (hkw.run pos pins s σ H _ I h) fun uw s2 ⟨ws, H2, I2, rz, q2⟩ => ⟨I2.kIn, by
    rw [hks]
    exact run_new (us := []) M F hr hgd hb htk I2 .nil rz q2⟩) hpl) hdb)⟩
structure MthK (X : Cx) (C : Addr) (m : Str) (a : ArI) (sp : Sp) : Prop where
  cls : Cls X.K C
  ex : ∃ (k : Nat) (f : Addr) (fd : FuncData) (ps : List Str), Meth X.K C m f ∧ KaOk X.K fd ps a ∧ Room k X.A ∧ FnG X.prog X.w X.K X.mg X.base k f fd ps sp
def tMth (X : Cx) (m : Str) (ks : List Str) (W : WX) (ta : TE) (t tk : TA) : TE := fun σ H Q => ta σ H fun x H1 => ∃ (q C dx : Addr) (fs : List (Str × V)) (a : ArI) (sp : Sp), x = .ref q ∧ H1 q = some (.ins C dx fs) ∧ fs.lookup m = none ∧ MthK X C m a sp ∧
  t σ H1 fun vs H2 => tk σ H2 fun ws H3 => ∃ (r : RA) (xs ys zs : List D), RepL X.K r H3 xs (x :: vs) ∧ RepL X.K r H3 ys ws ∧ arr a xs ks ys = some zs ∧ ∀ zv, RepL X.K r H3 zs zv → sp zv H3 Q fun c d H' => W c d σ H'
theorem run_mth {pins : List (Addr × Obj)} {σ : L2.St} {H : Hp} {s : Shared} {Q : VK} {q : Addr} {us uw : List Value} {vs ws : List V} {fd : FuncData} {ps : List Str} (F : FnG X.prog X.w X.K X.mg X.base k f fd ps sp) (hr : Room k X.A) (hg : X.A.guards = some []) (hb : KaOk X.K fd ps a) (htk : Takes X W)
    (I : Inv X pins σ H s) (rv : Vals vs us) (rz : Vals ws uw) (h : ∃ (r : RA) (xs ys zs : List D), RepL X.K r H xs (.ref q :: vs) ∧ RepL X.K r H ys ws ∧ arr a xs ks ys = some zs ∧ ∀ zv, RepL X.K r H zs zv → sp zv H Q fun c d H' => W c d σ H') :
    wpAny (model X.prog X.w) X.A (PySem.call (.ref f) (.ref q :: us) (ks.zip uw)) (EP X pins σ Q) X.xe s := by
  obtain ⟨r, xs, ys, zs, q1, q2, q3, q4⟩ := h
  have rv' : Vals (V.ref q :: vs) (Value.ref q :: us) := .cons rfl rv
  obtain ⟨zv, zu, k1, k2, k3⟩ := arr_ok hb q3 q1 rv' q2 rz I.kIn
  exact run_gk F hr hg k3 htk I k2 (q4 zv k1)
theorem pe_mth {o e : Expr} {rest : List Expr} (hgd : X.A.guards = some []) (htk : Takes X W) (ho : PE X o ta) (ha : PA X (e :: rest) t) (hkw : PK X kws tk) (hall : (backToKw pos (keywordEach kws X.env)).all (·.1.isSome) = true) (hks : (backToKw pos (keywordEach kws X.env)).filterMap (·.1) = ks)
    (hb : attributeBase o m X.env (eval o X.env) = eval o X.env) (hf : methodCallForm ((e :: rest).length + kws.length) (backTo pos (starEach (e :: rest) X.env)) (backToKw pos (keywordEach kws X.env)) = true) (hl : (apos.endLine == pos.line) = true)
    (he : starEach (e :: rest) X.env = (false, eval e X.env) :: starEach rest X.env) (hpl : ((backTo pos (starEach (e :: rest) X.env)).any (·.1) || (backToKw pos (keywordEach kws X.env)).any (·.1.isNone)) = false) :
    PE X (.Call (.Attribute o m apos) (e :: rest) kws pos) (tMth X m ks W ta t tk) :=
  ⟨fun pins s σ H Q I h => meth_call hb hf hl (thn (ho.run pins s σ H _ I h) fun u s1 ⟨y, H1, I1, rx, q, C, dx, fs, a, sp, ex, hH, hno, ⟨cls, k, f, fd, ps, M, hka, hr, F⟩, q1⟩ pl => by
    subst ex
    obtain rfl : u = Value.ref q := rx
    refine getmeth_ok I1 hH cls M hno ?_
    refine PySem.W.callWith_KW (first := [.ref q]) (h₀ := X.base) I.ok.mod.kin M.kp hall (thn (ha.run pos pins s1 σ H1 _ I1 q1) fun us s2 ⟨vs, H2, I2, r2, q2⟩ => thn (hkw.run pos pins s2 σ H2 _ I2 q2) fun uw s3 ⟨ws, H3, I3, r3, q3⟩ => ⟨I3.kIn, ?_⟩) hpl he
    rw [hks]
    exact run_mth F hr hgd hka htk I3 r2 r3 q3)⟩
theorem pe_mth0 {o : Expr} (hgd : X.A.guards = some []) (htk : Takes X W) (ho : PE X o ta) (hkw : PK X kws tk) (hall : (backToKw pos (keywordEach kws X.env)).all (·.1.isSome) = true) (hks : (backToKw pos (keywordEach kws X.env)).filterMap (·.1) = ks)
    (hb : attributeBase o m X.env (eval o X.env) = eval o X.env) (hf : methodCallForm (([] : List Expr).length + kws.length) (backTo pos (starEach [] X.env)) (backToKw pos (keywordEach kws X.env)) = true) (hl : (apos.endLine == pos.line) = true)
    (hpl : ((backTo pos (starEach [] X.env)).any (·.1) || (backToKw pos (keywordEach kws X.env)).any (·.1.isNone)) = false) :
    PE X (.Call (.Attribute o m apos) [] kws pos) (tMth X m ks W ta tNil tk) :=
  ⟨fun pins s σ H Q I h => meth_call hb hf hl (thn (ho.run pins s σ H _ I h) fun u s1 ⟨y, H1, I1, rx, q, C, dx, fs, a, sp, ex, hH, hno, ⟨cls, k, f, fd, ps, M, hka, hr, F⟩, q1⟩ pl => by
    subst ex
    obtain rfl : u = Value.ref q := rx
    refine getmeth_ok I1 hH cls M hno ?_
    refine PySem.W.callWith_KW0 (first := [.ref q]) (h₀ := X.base) I.ok.mod.kin M.kp hall (thn (hkw.run pos pins s1 σ H1 _ I1 q1) fun uw s3 ⟨ws, H3, I3, r3, q3⟩ => ⟨I3.kIn, ?_⟩) hpl
    rw [hks]
    exact run_mth (us := []) F hr hgd hka htk I3 .nil r3 q3)⟩
end
end PV
set_option Elab.async false
set_option linter.all false
set_option autoImplicit false
set_option maxRecDepth 100000
set_option maxHeartbeats 4000000
namespace PV
open PySem PySem.Spec PyProof.Rows L2
def PutD (ω : World) (K : PySem.W.Frag) (D : Addr) (y z : V) (H : Hp) (Nx : Hp → Prop) : Prop := ∃ (r : RA) (k : PV.D) (ep : Nat) (xs : List DE) (kvs : KV), kOk k = true ∧ Rep K r H k y ∧ H D = some (DctO ω D ep xs) ∧ (xs.map (·.1)).Nodup ∧ RepKV K r H kvs xs ∧ kvs.length < sizeLine ∧
  ∀ u v, RelV y u → RelV z v → Nx (upd H D (DctO ω D (epA ep xs (kD k)) (stA xs (kD k) u v)))
theorem stA_len (xs : List DE) (k : NestedKey) (u v : Value) : (stA xs k u v).length ≤ xs.length + 1 := by
  unfold stA
  split <;> simp
theorem put_run {X : Cx} {pins : List (Addr × Obj)} {σ : L2.St} {H : Hp} {s : Shared} {E : Value → Shared → Prop} {D : Addr} {y z : V} {u v : Value} {Nx : Hp → Prop} {Q : Unit → Shared → Prop} (hu : X.A.units + 128 < cLine) (I : Inv X pins σ H s) (ry : RelV y u) (rz : RelV z v) (h : PutD X.w X.K D y z H Nx)
    (q : ∀ s' H', Inv X pins σ H' s' → Nx H' → Q () s') : wpAny (model X.prog X.w) X.A (dictSet D u v) Q E s := by
  obtain ⟨r, k, ep, xs, kvs, hk, rk, hD, n, t, hl, nx⟩ := h
  obtain ⟨DX, hm, hz⟩ := dct_x I hD n t
  refine dset_any (by omega) (key_at I hk rk ry) DX hz fun h' D' sb => q _ _ (dct_set I hD hm ?_ D' sb) (nx u v ry rz)
  have e := stA_len xs (kD k) u v
  rw [RepKV.length t] at e
  omega
def tDx (ω : World) (K : PySem.W.Frag) (wi : TI) (g : TG) (tt : TT) (tk tv : TE) (vs : List Nat) : TE := fun σ H Q => wi σ H fun J H1 => ∀ D, H1 D = none → ∃ W : Nat → Nat → Hp → Prop, (∃ m, W 0 m (upd H1 D (DctO ω D 0 []))) ∧ ∀ i m H, W i m H →
  (J.stop i H ∧ Q (.ref D) H) ∨ (J.go i H ∧ ∃ Nx : Hp → Prop, (∀ H', Nx H' → ∃ m', m' < m ∧ W (i + 1) m' H') ∧ ∀ x H', J.yld i H x H' → g x (wipe σ vs) H' fun σ2 H2 => wipe σ2 vs = wipe σ vs ∧ tt σ2 H2 fun b H3 =>
    if b = true then tk σ2 H3 fun y H4 => tv σ2 H4 fun z H5 => PutD ω K D y z H5 Nx else Nx H3)
abbrev BlkP (X : Cx) (scope : Scope) (F : Cx → Prop) : Prop := ∀ (s : Shared) (H : Hp) (c : Addr) (cl : List (Str × Addr)) (fp : List Addr), F (X.blk s H scope (compEnvC scope cl c X.env) fp)
section
variable {X : Cx} {kx vx tg iter : Expr} {ifs : List Expr} {scope : Scope} {own : List (Str × Nat)} {pos pos' : Pos} {wi : TI} {g : TG} {tt : TT} {tk tv : TE}
theorem dx_core {pins : List (Addr × Obj)} {s : Shared} {σ : L2.St} {H : Hp} {Q : VK} {use : Option (Value → Sem Unit)} {Qf : Value → Shared → Prop} (hun : X.A.units + 128 < cLine) (calm : X.calm = true) (nd : X.N.Nodup) (I : Inv X pins σ H s) (hi : PI X tg iter wi) (ok : BlkOk X.N X.env.scope scope own)
    (hg : BlkP X scope fun Y => PG Y tg g) (ht : BlkP X scope fun Y => PTs Y ifs tt) (hk : BlkP X scope fun Y => PE Y kx tk) (he : BlkP X scope fun Y => PE Y vx tv) (fold : ∀ x, foldedSetIterable iter X.env x = pure x) (h : tDx X.w X.K wi g tt tk tv (own.map (·.2)) σ H Q)
    (back : ∀ D c s' m H', Inv X pins σ H' s' → Q (.ref D) H' → s'.heap.Ns c m → FpOk X pins H' c → compPost (model X.prog X.w) X.A X.xe use Qf (.ref D) c (.ok .next) s') :
    wpAny (model X.prog X.w) X.A (comprehension (.DictComp kx vx [⟨tg, iter, ifs, 0⟩] scope pos) scope X.env pos' newDict false (eval iter X.env) use) Qf X.xe s := by
  refine wpAny_comprehension_free (use := use) rfl fold (closure_ok fun y hy e => (ok.free y hy e).elim (fun z => I.ok.has _ (.inl z)) fun z => I.ok.has _ (.inr z)) ok.kind (fun y hy e => by rw [ok.uniq y hy, e]) (thn (hi.run pins s σ H _ I h) fun xv s1 hx => thn hx fun itv s2 ⟨it, fp, tn, J, H2, e, I2, T, st2, f2, q⟩ => ?_)
  subst e
  refine wpAny_newObj_type (newEnv_comp ?_)
  generalize eD : s2.heap.objs.size = D
  obtain ⟨W, ⟨m0, w0⟩, turn⟩ := q D (I2.hok.fresh (Nat.le_of_eq eD))
  generalize e3 : ({ s2 with heap := s2.heap.push { cls := .type "dict", data := .dict #[] } } : Shared) = t3
  have hp3 : t3.heap = s2.heap.push { cls := .type "dict", data := .dict #[] } := by rw [← e3]
  have J3 : Inv X pins σ (upd H2 D (DctO X.w D 0 [])) t3 := by
    rw [← e3, ← eD]
    exact dct_new I2 (t' := s2.toks) (fun _ _ z => Heap.get?_push_of_some _ z) (Nat.le_refl _) (Nat.zero_le _) ⟨_, #[], Heap.get?_push_size _ rfl, ⟨rfl, rfl, rfl⟩, rfl, rfl, (fun _ hx => by cases hx), List.nodup_nil⟩
  have lt2 : ∀ b ∈ fp, b < s2.heap.objs.size := fun b hb => let ⟨o, z, _⟩ := T.obj _ _ st2 b hb; Heap.lt_size z
  have fp3 : ∀ b ∈ fp, FpOk X pins (upd H2 D (DctO X.w D 0 [])) b ∧ b < t3.heap.objs.size := fun b hb => by
    refine ⟨⟨?_, (f2 b hb).2⟩, by rw [hp3, Heap.size_push]; exact Nat.lt_succ_of_lt (lt2 b hb)⟩
    rw [upd_ne (by rw [← eD]; exact Nat.ne_of_lt (lt2 b hb))]
    exact (f2 b hb).1
  have J4 := block_start J3 ok nd fp3
  generalize ecl : cellsFrom (t3.heap.objs.size + 1) scope.names (cloFrom X.env.cells scope.names []) = cl at J4
  have pg := hg t3 (upd H2 D (DctO X.w D 0 [])) t3.heap.objs.size cl fp
  have pt := ht t3 (upd H2 D (DctO X.w D 0 [])) t3.heap.objs.size cl fp
  have pk := hk t3 (upd H2 D (DctO X.w D 0 [])) t3.heap.objs.size cl fp
  have pv := he t3 (upd H2 D (DctO X.w D 0 [])) t3.heap.objs.size cl fp
  have no3 : ∀ b ∈ fp, (upd H2 D (DctO X.w D 0 [])) b = none := fun b hb => (fp3 b hb).1.1
  show codeAny _ _ (.compStart (.DictComp kx vx [⟨tg, iter, ifs, 0⟩] scope pos) 0 (.ref it) (.ref D) (compEnvC scope cl t3.heap.objs.size X.env)) (compPost (model X.prog X.w) X.A X.xe use Qf (.ref D) t3.heap.objs.size) { t3 with heap := pushCells (t3.heap.push { cls := .type "dict", data := .dict #[] }) scope.names }
  generalize ee : compEnvC scope cl t3.heap.objs.size X.env = ce at J4 pg pt pk pv ⊢
  have loc : ce.locals = t3.heap.objs.size := by subst ee; rfl
  generalize eH : upd H2 D (DctO X.w D 0 []) = H3 at J3 J4 pg pt pk pv w0 no3 fp3
  generalize e4 : ({ t3 with heap := pushCells (t3.heap.push { cls := .type "dict", data := .dict #[] }) scope.names } : Shared) = t4 at J4 ⊢
  have tn4 : tn 0 t4.heap := T.keep _ _ _ st2 fun b _ o z => by
    rw [← e4]
    refine pushCells_keeps _ _ _ _ (Heap.get?_push_of_some _ ?_)
    rw [hp3]
    exact Heap.get?_push_of_some _ z
  have own0 : ∀ {σ' : L2.St} {H' : Hp} {s' : Shared}, Inv (X.blk t3 H3 scope ce fp) [] σ' H' s' → (∀ b ∈ fp, H' b = none) → ∀ b ∈ fp, FpOk (X.blk t3 H3 scope ce fp) [] H' b := fun {σ' H' s'} I' no b hb =>
    ⟨no b hb, (I'.ok.exf b hb).1, I'.ok.exfs b hb, .inl hb, fun x c z => (I'.ok.exf b hb).2 x c z, fun p hp => by cases (show p ∈ ([] : List (Addr × Obj)) ++ [] from hp)⟩
  have lp : codeAny (model X.prog X.w) X.A (.compLoop (.DictComp kx vx [⟨tg, iter, ifs, 0⟩] scope pos) 0 (.ref it) (.ref D) ce) (compPost (model X.prog X.w) X.A X.xe use Qf (.ref D) t3.heap.objs.size) t4 := by
    refine compLoop_anyD (fun n s' => ∃ i H', Inv (X.blk t3 H3 scope ce fp) [] (wipe σ (own.map (·.2))) H' s' ∧ tn i s'.heap ∧ (∀ b ∈ fp, H' b = none) ∧ W i n H') (fun n s5 ⟨i, H5, J5, st5, n5, w5⟩ => ?_) m0 ⟨0, H3, J4, tn4, no3, w0⟩
    rcases turn i n H5 w5 with ⟨halt, qq⟩ | ⟨more, Nx, hNx, step⟩
    · refine thnF (T.done (X.blk t3 H3 scope ce fp) rfl rfl rfl calm i [] s5 _ H5 (fun _ _ => False) J5 (own0 J5 n5) st5 halt) fun res s6 ⟨hres, J6⟩ => ?_
      subst hres
      obtain ⟨m, hns, _⟩ := J6.loc
      have hns' : s6.heap.Ns ce.locals m := hns
      have nloc : H5 ce.locals = none := J6.free
      rw [loc] at hns' nloc
      exact back D t3.heap.objs.size s6 m H5 (J3.call' (ch := fp) J6.os J6.base J6.hok J6.bare fun b hb => let z := (fp3 b hb).1; ⟨z.2.2.2.1, z.2.1, z.2.2.2.2.1, z.2.2.2.2.2⟩) qq hns' (J3.fpOk (Nat.le_refl _) nloc)
    · refine thnF (T.item (X.blk t3 H3 scope ce fp) rfl rfl rfl calm i [] s5 _ H5 (fun _ _ => False) J5 (own0 J5 n5) st5 more) fun res s6 ⟨u, hres, h6⟩ => ?_
      subst hres
      refine thnF h6 fun _ s7 ⟨x, H7, J7, r7, y7, st7, n7⟩ => ?_
      refine thnF (pg.run _ s7 _ H7 x u _ (J7.pinned (own0 J7 n7) (T.obj _ _ st7)) r7 (step x H7 y7)) fun _ s8 ⟨σ8, H8, J8, hw8, q8⟩ => ?_
      refine thnF (pt.run _ s8 σ8 H8 _ J8 q8) fun b s9 ⟨H9, J9, q9⟩ => ?_
      have over : ∀ {s' : Shared} {H' : Hp}, Inv (X.blk t3 H3 scope ce fp) ([] ++ pinsAt fp s7.heap) σ8 H' s' → Nx H' → ∃ m, m < n ∧ ∃ i H', Inv (X.blk t3 H3 scope ce fp) [] (wipe σ (own.map (·.2))) H' s' ∧ tn i s'.heap ∧ (∀ b ∈ fp, H' b = none) ∧ W i m H' := fun {s' H'} I' nx => by
        obtain ⟨m', hm, w'⟩ := hNx H' nx
        have held : ∀ b ∈ fp, ∀ o, s7.heap.get? b = some o → s'.heap.get? b = some o ∧ H' b = none := fun b hb o z => by
          have y := I'.pin (b, o) (List.mem_append_right _ (List.mem_append_right _ (mem_pinsAt hb z)))
          exact ⟨y.1, y.2.1⟩
        refine ⟨m', hm, i + 1, H', (I'.unpinned (pins := [])).weak (by rw [← hw8, wipe_length]) (fun j v z => ?_), T.keep _ _ _ st7 fun b hb o z => (held b hb o z).1, fun b hb => ?_, w'⟩
        · rw [← hw8] at z
          exact (wipe_some z).1
        · obtain ⟨o, z, _⟩ := T.obj _ _ st7 b hb
          exact (held b hb o z).2
      cases b with
      | false =>
        rw [if_neg Bool.false_ne_true] at q9 ⊢
        exact over J9 q9
      | true =>
        rw [if_pos rfl] at q9 ⊢
        refine thnF (pk.run _ s9 σ8 H9 _ J9 q9) fun z s10 ⟨yk, H10, J10, r10, q10⟩ => thnF (pv.run _ s10 σ8 H10 _ J10 q10) fun z2 s11 ⟨yv, H11, J11, r11, q11⟩ => ?_
        exact put_run (X := X.blk t3 H3 scope ce fp) hun J11 r10 r11 q11 fun s12 H12 J12 nx => over J12 nx
  exact codeAny_compStart_dict lp (T.self X.A 0 _ _ _ tn4 lp)
theorem pe_dx (hun : X.A.units + 128 < cLine) (calm : X.calm = true) (nd : X.N.Nodup) (hi : PI X tg iter wi) (ok : BlkOk X.N X.env.scope scope own) (hg : BlkP X scope fun Y => PG Y tg g) (ht : BlkP X scope fun Y => PTs Y ifs tt) (hk : BlkP X scope fun Y => PE Y kx tk) (he : BlkP X scope fun Y => PE Y vx tv)
    (fold : ∀ x, foldedSetIterable iter X.env x = pure x) : PE X (.DictComp kx vx [⟨tg, iter, ifs, 0⟩] scope pos) (tDx X.w X.K wi g tt tk tv (own.map (·.2))) := ⟨fun pins s σ H Q I h => by
  rw [arm_eval_DictComp]
  refine dx_core hun calm nd I hi ok hg ht hk he fold h fun D c s' m H' J q hn f => ⟨m, hn, fun h'' sb => ⟨.ref D, H', ?_, rfl, q⟩⟩
  exact J.turned (t' := s'.toks) (fun b o hb z => (sb.2 b hb).trans z) f.1 f.2.1 f.2.2.2.1 f.2.2.2.2.1 f.2.2.2.2.2⟩
end
end PV
set_option Elab.async false
set_option linter.all false
set_option autoImplicit false
set_option maxRecDepth 100000
set_option maxHeartbeats 1000000
namespace PV
open PySem PySem.Spec PyProof.Rows L2
abbrev Sl := L2.St
def XdR (K : PySem.W.Frag) (r : RA) (H : Hp) (fs : List (Str × D)) (dd : Option Addr) : Prop :=
  ∃ d fv, dd = some d ∧ H d = some (.xd fv) ∧ ∀ f x, fs.lookup f = some x → ∃ v, fv.lookup f = some v ∧ Rep K r H x v
structure Cn where
  w : World
  ad : Nat → Addr
  tb : TBT
  xg : Option (Nat × Addr × Option Addr × List (Str × D))
def EnvR (C : Cn) (K : PySem.W.Frag) (r : RA) (H : Hp) (e : Env) (σ : Sl) : Prop := e.length = σ.length ∧ (∀ (i : Nat) (d : D), e[i]? = some (some d) → ∃ v, σ[i]? = some (some v) ∧ Rep K r H d v) ∧
  (∀ i a dd fs, C.xg = some (i, a, dd, fs) → (e[i]? = some none → σ[i]? = some (some (.ref a))) ∧ XdR K r H fs dd) ∧ TabsR C.tb r H
def PostG {α β : Type} {b : List MO} (RP : RA → Hp → α → β → Prop) (K : PySem.W.Frag) (C : Cn) (W : WX) (σ : Sl) (r : RA) (H : Hp) (o : Out b α) (Q : β → Hp → Prop) : Prop := match o with
  | .ok a s => ∀ r' H' v, Fx C.tb r H r' H' → Rel C.w K r' s.M H' → RP r' H' a v → Q v H'
  | .ex c fs s => ∀ r' H' dd, Fx C.tb r H r' H' → Rel C.w K r' s.M H' → XdR K r' H' fs dd → W (.ref (C.ad c)) dd σ H'
section
variable {α β γ δ : Type} {b : List MO} {RP : RA → Hp → α → β → Prop} {RP2 : RA → Hp → γ → δ → Prop} {K : PySem.W.Frag} {C : Cn} {W : WX} {σ : Sl} {r r' : RA} {H H' : Hp}
theorem PostG.mono {o : Out b α} {Q : β → Hp → Prop} (h : PostG RP K C W σ r H o Q) (fx : Fx C.tb r H r' H') : PostG RP K C W σ r' H' o Q := by
  cases o with
  | ok a s => exact fun r2 H2 v x => h r2 H2 v (fx.trans x)
  | ex c fs s => exact fun r2 H2 v x => h r2 H2 v (fx.trans x)
theorem XdR.mono {fs : List (Str × D)} {dd : Option Addr} (h : XdR K r H fs dd) (hp : r <+: r') (hx : Ext H H') : XdR K r' H' fs dd := by
  obtain ⟨d, fv, e1, e2, e3⟩ := h
  exact ⟨d, fv, e1, hx d _ rfl e2, fun f x q => by
    obtain ⟨v, e4, e5⟩ := e3 f x q
    exact ⟨v, e4, Rep.mono hp hx x v e5⟩⟩
theorem EnvR.mono {e : Env} (h : EnvR C K r H e σ) (fx : Fx C.tb r H r' H') : EnvR C K r' H' e σ :=
  ⟨h.1, fun i d q => by
    obtain ⟨v, e1, e2⟩ := h.2.1 i d q
    exact ⟨v, e1, Rep.mono fx.pre fx.ext d v e2⟩, fun i a dd fs q => ⟨(h.2.2.1 i a dd fs q).1, (h.2.2.1 i a dd fs q).2.mono fx.pre fx.ext⟩, fx.tab h.2.2.2⟩
theorem EnvR.set {e : Env} (h : EnvR C K r H e σ) (i : Nat) {d : D} {v : V} (q : Rep K r H d v) : EnvR C K r H (e.set i (some d)) (σ.set i (some v)) := by
  refine ⟨by rw [List.length_set, List.length_set]; exact h.1, fun j x z => ?_, fun j a dd fs hx => ⟨fun z => ?_, (h.2.2.1 j a dd fs hx).2⟩, h.2.2.2⟩
  · by_cases hj : j = i
    · subst hj
      by_cases hi : j < e.length
      · rw [List.getElem?_set_self hi] at z
        cases z
        exact ⟨v, List.getElem?_set_self (by rw [← h.1]; exact hi), q⟩
      · rw [List.getElem?_eq_none (by rw [List.length_set]; omega)] at z
        cases z
    · rw [List.getElem?_set_ne (Ne.symm hj)] at z ⊢
      exact h.2.1 j x z
  · by_cases hj : j = i
    · subst hj
      by_cases hi : j < e.length
      · rw [List.getElem?_set_self hi] at z
        cases z
      · rw [List.getElem?_eq_none (by rw [List.length_set]; omega)] at z
        cases z
    · rw [List.getElem?_set_ne (Ne.symm hj)] at z ⊢
      exact (h.2.2.1 j a dd fs hx).1 z
theorem EnvR.wipe1 {e : Env} (hx : C.xg = none) (h : EnvR C K r H e σ) (i : Nat) (o : Option V) : EnvR C K r H (e.set i none) (σ.set i o) := by
  refine ⟨by rw [List.length_set, List.length_set]; exact h.1, fun j x z => ?_, fun j a dd fs z => (by rw [hx] at z; cases z), h.2.2.2⟩
  by_cases hj : j = i
  · subst hj
    by_cases hi : j < e.length
    · rw [List.getElem?_set_self hi] at z
      cases z
    · rw [List.getElem?_eq_none (by rw [List.length_set]; omega)] at z
      cases z
  · rw [List.getElem?_set_ne (Ne.symm hj)] at z ⊢
    exact h.2.1 j x z
theorem EnvR.wipe {e : Env} (hx : C.xg = none) (h : EnvR C K r H e σ) : ∀ vs : List Nat, EnvR C K r H (wipeE e vs) (wipe σ vs)
  | [] => h
  | v :: vs => (EnvR.wipe hx h vs).wipe1 hx v none
theorem EnvR.suite {e : Env} (hx : C.xg = none) (h : EnvR C K r H e σ) (i : Nat) (a : Addr) {dd : Option Addr} {fs : List (Str × D)} (xd : XdR K r H fs dd) : EnvR ⟨C.w, C.ad, C.tb, some (i, a, dd, fs)⟩ K r H (e.set i none) (σ.set i (some (.ref a))) := by
  refine ⟨(h.wipe1 hx i _).1, (h.wipe1 hx i _).2.1, fun j b dd fs z => ?_, h.2.2.2⟩
  cases z
  refine ⟨fun q => ?_, xd⟩
  rw [List.getElem?_set] at q ⊢
  by_cases hi : i < e.length
  · rw [if_pos rfl, if_pos (by rw [← h.1]; exact hi)]
  · rw [if_pos rfl, if_neg hi] at q
    cases q
theorem EnvR.unsuite {e : Env} (h : EnvR C K r H e σ) (i : Nat) : EnvR ⟨C.w, C.ad, C.tb, none⟩ K r H (e.set i none) (σ.set i none) :=
  EnvR.wipe1 (C := ⟨C.w, C.ad, C.tb, none⟩) rfl ⟨h.1, h.2.1, fun _ _ _ _ z => (by cases z), h.2.2.2⟩ i none
def tN (RP : RA → Hp → α → β → Prop) (K : PySem.W.Frag) (C : Cn) (W : WX) (ev : {b : List MO} → Env → HS b → R b α) : Sl → Hp → (β → Hp → Prop) → Prop := fun σ H Q =>
  ∃ (b : List MO) (s : HS b) (r : RA) (e : Env) (o : Out b α), Rel C.w K r s.M H ∧ EnvR C K r H e σ ∧ ev e s = some o ∧ PostG RP K C W σ r H o Q
theorem tN.seq {s : HS b} {e : Env} {ev : {b : List MO} → Env → HS b → R b α} {F : α → HS b → R b γ} {o : Out b γ} {Q : β → Hp → Prop} {Q2 : δ → Hp → Prop} (R : Rel C.w K r s.M H) (E : EnvR C K r H e σ) (h : bnd (ev e s) F = some o) (post : PostG RP2 K C W σ r H o Q2)
    (next : ∀ a s1 r' H' v, Fx C.tb r H r' H' → F a s1 = some o → Rel C.w K r' s1.M H' → EnvR C K r' H' e σ → RP r' H' a v → PostG RP2 K C W σ r' H' o Q2 → Q v H') : tN RP K C W ev σ H Q := by
  cases q : ev e s with
  | none => rw [q] at h; cases h
  | some o1 =>
    rw [q] at h
    refine ⟨b, s, r, e, o1, R, E, q, ?_⟩
    cases o1 with
    | ok a s1 => exact fun r' H' v x R1 rp => next a s1 r' H' v x h R1 (E.mono x) rp (post.mono x)
    | ex c fs s1 =>
      cases h
      exact post
end
abbrev RD (K : PySem.W.Frag) : RA → Hp → D → V → Prop := fun r H d v => Rep K r H d v
abbrev RDL (K : PySem.W.Frag) : RA → Hp → List D → List V → Prop := fun r H d v => RepL K r H d v
abbrev RBl : RA → Hp → Bool → Bool → Prop := fun _ _ a v => v = a
abbrev ROI : RA → Hp → Option Int → Option Int → Prop := fun _ _ a v => v = a
def tE (K : PySem.W.Frag) (C : Cn) (P : Ev) (cur : Cur) (W : WX) (c : CE) : TE := tN (RD K) K C W (fun e s => evE P cur c e s)
def tL (K : PySem.W.Frag) (C : Cn) (P : Ev) (cur : Cur) (W : WX) (cs : List CE) : TA := tN (RDL K) K C W (fun e s => evL P cur cs e s)
def tT (K : PySem.W.Frag) (C : Cn) (P : Ev) (cur : Cur) (W : WX) (c : CE) : TT := tN RBl K C W (fun e s => tst (evE P cur c e s))
def tOp' (K : PySem.W.Frag) (C : Cn) (P : Ev) (cur : Cur) (W : WX) (c : Option CE) : TO := tN ROI K C W (fun e s => evO P cur c e s)
theorem PE.imp {X : Cx} {e : Expr} {t t' : TE} (h : PE X e t) (i : ∀ σ H Q, t' σ H Q → t σ H Q) : PE X e t' := ⟨fun pins s σ H Q I q => h.run pins s σ H Q I (i σ H Q q)⟩
theorem PT.imp {X : Cx} {e : Expr} {t t' : TT} (h : PT X e t) (i : ∀ σ H Q, t' σ H Q → t σ H Q) : PT X e t' := ⟨fun pins s σ H Q I q => h.run pins s σ H Q I (i σ H Q q)⟩
theorem PW.imp {X : Cx} {e : Expr} {t t' : TT} (h : PW X e t) (i : ∀ σ H Q, t' σ H Q → t σ H Q) : PW X e t' := ⟨fun wh pins s σ H Q I q => h.run wh pins s σ H Q I (i σ H Q q)⟩
theorem PA.imp {X : Cx} {e : List Expr} {t t' : TA} (h : PA X e t) (i : ∀ σ H Q, t' σ H Q → t σ H Q) : PA X e t' := ⟨fun pos pins s σ H Q I q => h.run pos pins s σ H Q I (i σ H Q q)⟩
theorem PO.imp {X : Cx} {e : Option Expr} {t t' : TO} (h : PO X e t) (i : ∀ σ H Q, t' σ H Q → t σ H Q) : PO X e t' := ⟨fun pins s σ H Q I q => h.run pins s σ H Q I (i σ H Q q)⟩
structure Tb where
  nm : Nat → Option Str
  gl : List (Str × Int)
  fr : List Str
  cn : Nat → Option Str
  xs : List Str
  pl : Nat → Bool
  lm : List (List Str)
def C2.isIn : C2 → Bool
  | .inn => true
  | .nin => true
  | _ => false
def visB (sc : Scope) (x : Str) : Bool := match sc.names.lookup x with
  | some .local => true
  | some .cell => true
  | some .free => true
  | _ => false
def glB (sc : Scope) (x : Str) : Bool := decide (sc.names.lookup x = some .globalImplicit)
def okN (x : Str) : Bool := !(x == ("__debug__" : Str)) && !(x == ("__classdict__" : Str)) && decide (x ≠ ("__name__" : Str))
def BI.nm : BI → Str
  | .len => "len"
  | .all => "all"
  | .any => "any"
  | .sum => "sum"
  | .tuple => "tuple"
  | .list => "list"
  | .int => "int"
  | .max2 => "max"
  | .min2 => "min"
  | .repr => "repr"
  | .abs => "abs"
  | .dict => "dict"
  | .isi _ => "isinstance"
def notSl : Expr → Bool
  | .Slice _ _ none _ => false
  | _ => true
def baseB : Expr → Bool
  | .Call (.Name id _) [] [] _ => id != ("super" : Str)
  | _ => true
def MT.nm : MT → Str
  | .append => "append"
  | .get => "get"
def locB (cel : Bool) (sc : Scope) (x : Str) : Bool := match sc.names.lookup x with
  | some .local => true
  | some .cell => cel
  | _ => false
def chkTg (cel : Bool) (N : List Str) (sc : Scope) : Tg → Expr → Bool
  | .nm i, e => (match e with
    | .Name x _ => decide (N[i]? = some x) && locB cel sc x
    | _ => false)
  | .tp is, e => (match e with
    | .Tuple es _ _ => go is es
    | _ => false)
where go : List Nat → List Expr → Bool
  | [], [] => true
  | i :: is, .Name x _ :: es => decide (N[i]? = some x) && locB cel sc x && go is es
  | _, _ => false
def ownP (N : List Str) (own : List Nat) : List (Str × Nat) := own.filterMap fun i => (N[i]?).map fun x => (x, i)
def lamB (y : Str) (sc : Scope) : Bool := decide (sc.kind = .function) && !sc.isCoroutine && !sc.isGenerator && decide (sc.names.lookup y = some .local) && sc.names.all fun p => (p.1 == y && decide (p.2 = .local)) || decide (p.2 = .globalImplicit)
mutual
def chkE (T : Tb) (hot : Bool) (N : List Str) (sc : Scope) : CE → Expr → Bool
  | .cst d, e => (match e, d with
    | .Constant (.int i) _ _, .int j => decide (i = j)
    | .Constant (.bool i) _ _, .bl j => decide (i = j)
    | .Constant .none _ _, .non => true
    | .Constant (.str i) _ _, .str j => decide (i = j)
    | _, _ => false)
  | .var i, e => (match e with
    | .Name x _ => decide (N[i]? = some x) && visB sc x && okN x
    | _ => false)
  | .glb y i, e => (match e with
    | .Name x _ => decide (x = y) && glB sc x && okN x && decide (T.gl.lookup x = some i)
    | _ => false)
  | .bin o a b, e => (match e with
    | .BinOp l op r _ => decide (op = o.op) && chkE T hot N sc a l && chkE T hot N sc b r
    | _ => false)
  | .neg a, e => (match e with
    | .UnaryOp .USub x _ => chkE T hot N sc a x
    | _ => false)
  | .cmp o a b, e => (match e with
    | .Compare l [op] [r] _ => !behindInMarks o.op r && decide (op = o.op) && chkE T hot N sc a l && chkE T hot N sc b r
    | _ => false)
  | .chn o o2 a b c, e => (match e with
    | .Compare l [op, op2] [m, r] _ => !o.isIn && !o2.isIn && decide (op = o.op) && decide (op2 = o2.op) && chkE T hot N sc a l && chkE T hot N sc b m && chkE T hot N sc c r
    | _ => false)
  | .ands es, e => (match e with
    | .BoolOp .And vs _ => chkL T hot N sc es vs
    | _ => false)
  | .ors es, e => (match e with
    | .BoolOp .Or vs _ => chkL T hot N sc es vs
    | _ => false)
  | .nt a, e => (match e with
    | .UnaryOp .Not x _ => chkE T hot N sc a x
    | _ => false)
  | .ite c a b, e => (match e with
    | .IfExp t x y _ => chkE T hot N sc c t && chkE T hot N sc a x && chkE T hot N sc b y
    | _ => false)
  | .tup es, e => (match e with
    | .Tuple vs _ _ => chkL T hot N sc es vs
    | _ => false)
  | .lst es, e => (match e with
    | .List vs _ => chkL T hot N sc es vs
    | _ => false)
  | .dct0, e => (match e with
    | .Dict [] [] _ => true
    | _ => false)
  | .call f es, e => (match e with
    | .Call (.Name x _) args [] _ => !hot && decide (T.nm f = some x) && glB sc x && okN x && T.pl f && chkL T hot N sc es args
    | _ => false)
  | .callk f es ks kes, e => (match e with
    | .Call (.Name x _) args kws _ => !hot && decide (T.nm f = some x) && glB sc x && okN x && decide (kws.map (·.arg) = ks.map some) && chkL T hot N sc es args && chkL T hot N sc kes (kws.map (·.value))
    | _ => false)
  | .bi g es, e => (match e with
    | .Call (.Name x _) args [] _ => (!hot || g.hot) && decide (x = g.nm) && glB sc x && T.fr.contains x && (match g with
      | .isi t => (match args with
        | [a, .Name y _] => decide (y = (t.nm : Str)) && glB sc y && T.fr.contains y && chkL T hot N sc es [a]
        | _ => false)
      | _ => !args.isEmpty && chkL T hot N sc es args)
    | _ => false)
  | .mt m o es, e => (match e with
    | .Call (.Attribute x n apos) args [] cpos => !hot && decide (n = m.nm) && baseB x && (apos.endLine == cpos.line) && decide (args.length < 29) && !args.isEmpty && chkE T hot N sc o x && chkL T hot N sc es args
    | _ => false)
  | .idx a b, e => (match e with
    | .Subscript v s _ => notSl s && chkE T hot N sc a v && chkE T hot N sc b s
    | _ => false)
  | .slc a lo hi, e => (match e with
    | .Subscript v (.Slice l u none _) _ => chkE T hot N sc a v && chkO T hot N sc lo l && chkO T hot N sc hi u
    | _ => false)
  | .lc tg k src ifs elt own, e => (match e with
    | .ListComp el [⟨t, it, fs, 0⟩] scope _ => !hot && blkC N sc scope (ownP N own) && decide ((ownP N own).map (·.2) = own) && tg.slots.all (own.contains ·) && chkTg false N (relS scope sc) tg t && decide (fs.length ≤ 1) && chkL T hot N (relS scope sc) ifs fs && chkE T hot N (relS scope sc) elt el &&
      (match k with
      | .val => (match src with
        | [c] => chkE T hot N sc c it && (match it with | .Set _ _ _ => false | _ => true)
        | _ => false)
      | .range => (match it with
        | .Call (.Name x _) args [] _ => decide (x = ("range" : Str)) && glB sc x && T.fr.contains x && chkL T hot N sc src args && args.length == 1
        | _ => false)
      | .range2 => (match it with
        | .Call (.Name x _) args [] _ => decide (x = ("range" : Str)) && glB sc x && T.fr.contains x && chkL T hot N sc src args && args.length == 2
        | _ => false)
      | .zip => (match t with
        | .Tuple _ _ _ => (match it with
          | .Call (.Name x _) [a1, a2] [] _ => decide (x = ("zip" : Str)) && glB sc x && T.fr.contains x && chkL T hot N sc src [a1, a2]
          | _ => false)
        | _ => false)
      | .zipS => (match t with
        | .Tuple _ _ _ => (match it with
          | .Call (.Name x _) [a1, a2] [⟨some kn, .Constant (.bool true) _ _, _⟩] _ => decide (x = ("zip" : Str)) && decide (kn = ("strict" : Str)) && glB sc x && T.fr.contains x && chkL T hot N sc src [a1, a2]
          | _ => false)
        | _ => false))
    | _ => false)
  | .lc2 tg k src ifs tg2 k2 src2 ifs2 elt own own2, e => (match e with
    | .ListComp el [⟨t, it, fs, 0⟩, ⟨t2, it2, fs2, 0⟩] scope _ => !hot && blkC N sc scope (ownP N own) && decide ((ownP N own).map (·.2) = own) && tg.slots.all (own.contains ·) && chkTg false N (relS scope sc) tg t && decide (fs.length ≤ 1) && chkL T hot N (relS scope sc) ifs fs && chkE T hot N (relS scope sc) elt el &&
      tg2.slots.all (own2.contains ·) && own2.all (own.contains ·) && chkTg false N (relS scope sc) tg2 t2 && decide (fs2.length ≤ 1) && chkL T hot N (relS scope sc) ifs2 fs2 &&
      (match k with
      | .val => (match src with
        | [c] => chkE T hot N sc c it && (match it with | .Set _ _ _ => false | _ => true)
        | _ => false)
      | .range => (match it with
        | .Call (.Name x _) args [] _ => decide (x = ("range" : Str)) && glB sc x && T.fr.contains x && chkL T hot N sc src args && args.length == 1
        | _ => false)
      | .range2 => (match it with
        | .Call (.Name x _) args [] _ => decide (x = ("range" : Str)) && glB sc x && T.fr.contains x && chkL T hot N sc src args && args.length == 2
        | _ => false)
      | .zip => (match t with
        | .Tuple _ _ _ => (match it with
          | .Call (.Name x _) [a1, a2] [] _ => decide (x = ("zip" : Str)) && glB sc x && T.fr.contains x && chkL T hot N sc src [a1, a2]
          | _ => false)
        | _ => false)
      | .zipS => (match t with
        | .Tuple _ _ _ => (match it with
          | .Call (.Name x _) [a1, a2] [⟨some kn, .Constant (.bool true) _ _, _⟩] _ => decide (x = ("zip" : Str)) && decide (kn = ("strict" : Str)) && glB sc x && T.fr.contains x && chkL T hot N sc src [a1, a2]
          | _ => false)
        | _ => false)) &&
      (match k2 with
      | .val => (match src2 with
        | [c] => chkE T hot N (relS scope sc) c it2 && (match it2 with | .Set _ _ _ => false | _ => true)
        | _ => false)
      | .range => (match it2 with
        | .Call (.Name x _) args [] _ => decide (x = ("range" : Str)) && glB (relS scope sc) x && T.fr.contains x && chkL T hot N (relS scope sc) src2 args && args.length == 1
        | _ => false)
      | .range2 => (match it2 with
        | .Call (.Name x _) args [] _ => decide (x = ("range" : Str)) && glB (relS scope sc) x && T.fr.contains x && chkL T hot N (relS scope sc) src2 args && args.length == 2
        | _ => false)
      | .zip => (match t2 with
        | .Tuple _ _ _ => (match it2 with
          | .Call (.Name x _) [a1, a2] [] _ => decide (x = ("zip" : Str)) && glB (relS scope sc) x && T.fr.contains x && chkL T hot N (relS scope sc) src2 [a1, a2]
          | _ => false)
        | _ => false)
      | .zipS => (match t2 with
        | .Tuple _ _ _ => (match it2 with
          | .Call (.Name x _) [a1, a2] [⟨some kn, .Constant (.bool true) _ _, _⟩] _ => decide (x = ("zip" : Str)) && decide (kn = ("strict" : Str)) && glB (relS scope sc) x && T.fr.contains x && chkL T hot N (relS scope sc) src2 [a1, a2]
          | _ => false)
        | _ => false))
    | _ => false)
  | .srtF f a, e => (match e with
    | .Call (.Name x _) [v] [⟨some kn, .Name y _, _⟩] _ => !hot && decide (x = ("sorted" : Str)) && decide (kn = ("key" : Str)) && glB sc x && T.fr.contains x && decide (T.nm f = some y) && glB sc y && okN y && T.pl f && chkE T hot N sc a v
    | _ => false)
  | .srtL body a, e => (match e with
    | .Call (.Name x _) [v] [⟨some kn, .Lambda ⟨[], [⟨y, none, _⟩], none, [], [], none, []⟩ lb lsc _, _⟩] _ => !hot && decide (x = ("sorted" : Str)) && decide (kn = ("key" : Str)) && glB sc x && T.fr.contains x && T.lm.contains N && !T.lm.contains [y] && lamB y lsc && chkE T hot [y] lsc body lb && chkE T hot N sc a v
    | _ => false)
  | .excf i f, e => (match e with
    | .Attribute (.Name x _) g _ => decide (g = f) && decide (N[i]? = some x) && visB sc x && okN x
    | _ => false)
  | .exci i y, e => (match e with
    | .Call (.Name g _) [.Name x _, .Name z _] [] _ => decide (g = ("isinstance" : Str)) && decide (z = y) && decide (N[i]? = some x) && visB sc x && okN x && glB sc g && glB sc z && T.fr.contains g && T.fr.contains z
    | _ => false)
  | .bad, e => (match e with
    | .Starred _ _ => false
    | _ => true)
  | .fld a f, e => (match e with
    | .Attribute x n _ => decide (n = f) && baseB x && chkE T hot N sc a x
    | _ => false)
  | .mc a m es ks kes, e => (match e with
    | .Call (.Attribute x n apos) args kws cpos => !hot && decide (n = m) && baseB x && (apos.endLine == cpos.line) && decide (args.length + kws.length < 29) && decide (kws.map (·.arg) = ks.map some) && chkE T hot N sc a x && chkL T hot N sc es args && chkL T hot N sc kes (kws.map (·.value))
    | _ => false)
  | .new c es ks kes, e => (match e with
    | .Call (.Name x _) args kws _ => !hot && decide (x = c) && glB sc x && okN x && decide (kws.map (·.arg) = ks.map some) && chkL T hot N sc es args && chkL T hot N sc kes (kws.map (·.value))
    | _ => false)
  | .isC a c, e => (match e with
    | .Call (.Name g _) [x, .Name y _] [] _ => decide (g = ("isinstance" : Str)) && decide (y = c) && glB sc g && T.fr.contains g && glB sc y && okN y && chkE T hot N sc a x
    | _ => false)
  | .dc tg k src ifs ke ve own, e => (match e with
    | .DictComp kx vx [⟨t, it, fs, 0⟩] scope _ => !hot && blkC N sc scope (ownP N own) && decide ((ownP N own).map (·.2) = own) && tg.slots.all (own.contains ·) && chkTg false N (relS scope sc) tg t && decide (fs.length ≤ 1) && chkL T hot N (relS scope sc) ifs fs && chkE T hot N (relS scope sc) ke kx && chkE T hot N (relS scope sc) ve vx &&
      (match k with
      | .val => (match src with
        | [c] => chkE T hot N sc c it && (match it with | .Set _ _ _ => false | _ => true)
        | _ => false)
      | .range => (match it with
        | .Call (.Name x _) args [] _ => decide (x = ("range" : Str)) && glB sc x && T.fr.contains x && chkL T hot N sc src args && args.length == 1
        | _ => false)
      | .range2 => (match it with
        | .Call (.Name x _) args [] _ => decide (x = ("range" : Str)) && glB sc x && T.fr.contains x && chkL T hot N sc src args && args.length == 2
        | _ => false)
      | .zip => (match t with
        | .Tuple _ _ _ => (match it with
          | .Call (.Name x _) [a1, a2] [] _ => decide (x = ("zip" : Str)) && glB sc x && T.fr.contains x && chkL T hot N sc src [a1, a2]
          | _ => false)
        | _ => false)
      | .zipS => (match t with
        | .Tuple _ _ _ => (match it with
          | .Call (.Name x _) [a1, a2] [⟨some kn, .Constant (.bool true) _ _, _⟩] _ => decide (x = ("zip" : Str)) && decide (kn = ("strict" : Str)) && glB sc x && T.fr.contains x && chkL T hot N sc src [a1, a2]
          | _ => false)
        | _ => false))
    | _ => false)
def chkL (T : Tb) (hot : Bool) (N : List Str) (sc : Scope) : List CE → List Expr → Bool
  | [], es => es.isEmpty
  | c :: cs, es => (match es with
    | e :: r => chkE T hot N sc c e && chkL T hot N sc cs r
    | [] => false)
def chkO (T : Tb) (hot : Bool) (N : List Str) (sc : Scope) : Option CE → Option Expr → Bool
  | none, e => e.isNone
  | some c, e => (match e with
    | some x => chkE T hot N sc c x
    | none => false)
end
def spOf (K : PySem.W.Frag) (C : Cn) (cf : {b : List MO} → Nat → List D → HS b → R b D) (f : Nat) : Sp := fun vs H Q E =>
  ∃ (b : List MO) (s : HS b) (r : RA) (ds : List D) (o : Out b D), Rel C.w K r s.M H ∧ TabsR C.tb r H ∧ RepL K r H ds vs ∧ cf f ds s = some o ∧ PostG (RD K) K C (fun c d _ H' => E c d H') [] r H o Q
structure InsK (K : PySem.W.Frag) (C : Addr) : Prop where
  cl : Cls K C
  ha : PySem.W.findIn K (.ref C) "__class__" = some (some (.builtin "object.__class__"))
  hn : PySem.W.specialIn K (.builtin "object.__class__") "__get__" = some (some (.builtin "getset_descriptor.__get__"))
  htk : PySem.W.takesIn K (.builtin "object.__class__") = some true
  hm : PySem.W.mroIn K C (.type "object") = some true
def ClAt (P : Ev) (C : Cn) (k : Nat) (X : Cx) : Prop := (∀ c m f a, P.mth c m = some f → P.ar f = some a → Cls X.K (He.ga X.K c) ∧ ∃ (j : Nat) (fa : Addr) (fd : FuncData) (ps : List Str), j + 3 ≤ k ∧ Meth X.K (He.ga X.K c) m fa ∧ KaOk X.K fd ps a ∧ FnG X.prog X.w X.K X.mg X.base j fa fd ps (spOf X.K C P.cf f)) ∧ (∀ c f a, P.ini c = some f → P.ar f = some a → X.mg c = some (.ref (He.ga X.K c)) ∧ ∃ (j : Nat) (fa : Addr) (fd : FuncData) (ps : List Str), j + 4 ≤ k ∧ Mk X.K (He.ga X.K c) fa ∧ KaOk X.K fd ps a ∧ FnG X.prog X.w X.K X.mg X.base j fa fd ps (spOf X.K C P.cf f)) ∧ (∀ c f, P.fok c f = true → Cls X.K (He.ga X.K c) ∧ NoAttr X.K (He.ga X.K c) f) ∧ (∀ c, P.isc c = true → X.mg c = some (.ref (He.ga X.K c)) ∧ InsK X.K (He.ga X.K c) ∧ (∀ t ∈ ["NoneType", "bool", "int", "str", "tuple", "list", "dict"], PySem.W.kitOne X.K (.type t) (.ref (He.ga X.K c)) = some false) ∧ ∀ c', P.isc c' = true → PySem.W.kitOne X.K (.ref (He.ga X.K c')) (.ref (He.ga X.K c)) = some (decide (c' = c)))
theorem ClAt.mt {P : Ev} {C : Cn} {k : Nat} {X : Cx} (h : ClAt P C k X) : ∀ c m f a, P.mth c m = some f → P.ar f = some a → Cls X.K (He.ga X.K c) ∧ ∃ (j : Nat) (fa : Addr) (fd : FuncData) (ps : List Str), j + 3 ≤ k ∧ Meth X.K (He.ga X.K c) m fa ∧ KaOk X.K fd ps a ∧ FnG X.prog X.w X.K X.mg X.base j fa fd ps (spOf X.K C P.cf f) := h.1
theorem ClAt.nw {P : Ev} {C : Cn} {k : Nat} {X : Cx} (h : ClAt P C k X) : ∀ c f a, P.ini c = some f → P.ar f = some a → X.mg c = some (.ref (He.ga X.K c)) ∧ ∃ (j : Nat) (fa : Addr) (fd : FuncData) (ps : List Str), j + 4 ≤ k ∧ Mk X.K (He.ga X.K c) fa ∧ KaOk X.K fd ps a ∧ FnG X.prog X.w X.K X.mg X.base j fa fd ps (spOf X.K C P.cf f) := h.2.1
theorem ClAt.fd {P : Ev} {C : Cn} {k : Nat} {X : Cx} (h : ClAt P C k X) : ∀ c f, P.fok c f = true → Cls X.K (He.ga X.K c) ∧ NoAttr X.K (He.ga X.K c) f := h.2.2.1
theorem ClAt.ic {P : Ev} {C : Cn} {k : Nat} {X : Cx} (h : ClAt P C k X) : ∀ c, P.isc c = true → X.mg c = some (.ref (He.ga X.K c)) ∧ InsK X.K (He.ga X.K c) ∧ (∀ t ∈ ["NoneType", "bool", "int", "str", "tuple", "list", "dict"], PySem.W.kitOne X.K (.type t) (.ref (He.ga X.K c)) = some false) ∧ ∀ c', P.isc c' = true → PySem.W.kitOne X.K (.ref (He.ga X.K c')) (.ref (He.ga X.K c)) = some (decide (c' = c)) := h.2.2.2
def FnAt (T : Tb) (P : Ev) (C : Cn) (k : Nat) (X : Cx) : Prop := (∀ f x, T.nm f = some x → ∃ (j : Nat) (fa : Addr) (fd : FuncData) (ps : List Str), j + 3 ≤ k ∧ X.mg x = some (.ref fa) ∧ PySem.W.keepIn X.K (.ref fa) = true ∧ (T.pl f = true → Binds X.K fd ps []) ∧ (∀ a, P.ar f = some a → KaOk X.K fd ps a) ∧ FnG X.prog X.w X.K X.mg X.base j fa fd ps (spOf X.K C P.cf f)) ∧ ClAt P C k X
theorem FnAt.fn {T : Tb} {P : Ev} {C : Cn} {k : Nat} {X : Cx} (h : FnAt T P C k X) : ∀ f x, T.nm f = some x → ∃ (j : Nat) (fa : Addr) (fd : FuncData) (ps : List Str), j + 3 ≤ k ∧ X.mg x = some (.ref fa) ∧ PySem.W.keepIn X.K (.ref fa) = true ∧ (T.pl f = true → Binds X.K fd ps []) ∧ (∀ a, P.ar f = some a → KaOk X.K fd ps a) ∧ FnG X.prog X.w X.K X.mg X.base j fa fd ps (spOf X.K C P.cf f) := h.1
theorem FnAt.cl {T : Tb} {P : Ev} {C : Cn} {k : Nat} {X : Cx} (h : FnAt T P C k X) : ClAt P C k X := h.2
structure Gd (T : Tb) (P : Ev) (C : Cn) (hot : Bool) (cur : Cur) (W : WX) (k : Nat) (X : Cx) : Prop where
  cw : C.w = X.w
  nd : X.N.Nodup
  un : X.A.units + 200 < cLine
  gd : X.A.guards = some []
  fu : P.fu ≤ sizeLine
  gl : ∀ x i, T.gl.lookup x = some i → ∃ t, X.mg x = some (.int i t)
  fr : ∀ x, x ∈ T.fr → X.mg x = none
  calm : hot = false → X.calm = true
  room : hot = false → Room k X.A
  cur0 : hot = false → cur = none
  xg0 : hot = false → C.xg = none
  tk : Takes X W
  low : T.lm.contains X.N = true → hot = false → ∃ k', Room (k' + 3) X.A ∧ FnAt T P C k' X
  lam : T.lm.contains X.N = true → ∃ c p, LamX.TabB X.base X.mg c p ∧ X.env.code = .ref c ∧ (p, X.env.qual ++ "<lambda>") ∈ C.tb ∧ ∀ t, t ∈ C.tb → t.1 = p → t.2 = X.env.qual ++ "<lambda>"
  fn : FnAt T P C k X
  xf : ∀ i f n p p', X.N[i]? = some n → Vis X.env.scope n → okN n = true → PE X (.Attribute (.Name n p) f p') (tE X.K C P cur W (.excf i f))
  xi : ∀ i y n p p1 p2 p', X.N[i]? = some n → Vis X.env.scope n → okN n = true → Gl X "isinstance" → Gl X y → X.mg "isinstance" = none → X.mg y = none → PE X (.Call (.Name "isinstance" p) [.Name n p1, .Name y p2] [] p') (tE X.K C P cur W (.exci i y))
theorem chk_star {T : Tb} {hot : Bool} {N : List Str} {sc : Scope} {c : CE} {v : Expr} {p : Pos} (h : chkE T hot N sc c (.Starred v p) = true) : False := by
  cases c <;> exact Bool.noConfusion (show false = true from h)
theorem star_of {e : Expr} (h : ∀ v p, e ≠ .Starred v p) (es : List Expr) (env : PySem.Env) : starEach (e :: es) env = (false, eval e env) :: starEach es env := by
  cases e <;> first | rfl | exact absurd rfl (h _ _)
theorem chk_ns {T : Tb} {hot : Bool} {N : List Str} {sc : Scope} {c : CE} {e : Expr} (h : chkE T hot N sc c e = true) : ∀ v p, e ≠ .Starred v p := fun v p z => by
  subst z
  exact chk_star h
theorem any_ns {T : Tb} {hot : Bool} {N : List Str} {sc : Scope} {pos : Pos} {env : PySem.Env} : ∀ {cs : List CE} {es : List Expr}, chkL T hot N sc cs es = true → (backTo pos (starEach es env)).any (·.1) = false
  | [], es, h => by
    have e : es = [] := by simpa [chkL] using h
    subst e
    rfl
  | c :: cs, [], h => by simp [chkL] at h
  | c :: cs, e :: es, h => by
    have q : chkE T hot N sc c e = true ∧ chkL T hot N sc cs es = true := by simpa [chkL] using h
    rw [star_of (chk_ns q.1) es env]
    exact any_ns (cs := cs) q.2
theorem vis_of {sc : Scope} {x : Str} (h : visB sc x = true) : Vis sc x := by
  unfold visB at h
  split at h
  · exact .inl (by assumption)
  · exact .inr (.inl (by assumption))
  · exact .inr (.inr (by assumption))
  · cases h
theorem gl_of {X : Cx} {x : Str} (h : glB X.env.scope x = true) : Gl X x := by
  unfold glB at h
  have q := of_decide_eq_true h
  exact q
theorem okN_of {x : Str} (h : okN x = true) : (x == ("__debug__" : Str)) = false ∧ (x == ("__classdict__" : Str)) = false ∧ x ≠ ("__name__" : Str) := by
  unfold okN at h
  simp only [Bool.and_eq_true, Bool.not_eq_true', decide_eq_true_eq] at h
  exact ⟨h.1.1, h.1.2, h.2⟩
end PV
set_option Elab.async false
set_option linter.all false
set_option autoImplicit false
set_option maxRecDepth 100000
set_option maxHeartbeats 1000000
namespace PV
open PySem PySem.Spec PyProof.Rows L2
structure Gx (r : RA) (H : Hp) (r' : RA) (H' : Hp) : Prop where
  pre : r <+: r'
  ext : Ext H H'
theorem Fx.gx {τ : TBT} {r r' : RA} {H H' : Hp} (f : Fx τ r H r' H') : Gx r H r' H' := ⟨f.pre, f.ext⟩
theorem Gx.trans {r r1 r2 : RA} {H H1 H2 : Hp} (a : Gx r H r1 H1) (b : Gx r1 H1 r2 H2) : Gx r H r2 H2 := ⟨a.pre.trans b.pre, a.ext.trans b.ext⟩
theorem Gx.refl (r : RA) (H : Hp) : Gx r H r H := ⟨List.prefix_rfl, Ext.refl H⟩
def JOk (ω : World) (K : PySem.W.Frag) (J : It) (sr : Src) (r : RA) (H : Hp) : Prop := ∀ (b : List MO) (s : HS b) (r' : RA) (H' : Hp) (i : Nat), Gx r H r' H' → Rel ω K r' s.M H' →
  (sr.at i s = some none → J.stop i H') ∧ ∀ d, sr.at i s = some (some d) → J.go i H' ∧ ∀ x H2, J.yld i H' x H2 → Same H' H2 ∧ Rep K r' H2 d x
def tI (K : PySem.W.Frag) (C : Cn) (P : Ev) (cur : Cur) (W : WX) (k : ITk) (cs : List CE) : TI := tN (fun r H sr J => JOk C.w K J sr r H) K C W (fun e s => bnd (evL P cur cs e s) fun xs s1 => srcR k xs s1)
theorem PI.imp {X : Cx} {tg e : Expr} {t t' : TI} (h : PI X tg e t) (i : ∀ σ H Q, t' σ H Q → t σ H Q) : PI X tg e t' := ⟨fun pins s σ H Q I q => h.run pins s σ H Q I (i σ H Q q)⟩
section
variable {ω : World} {K : PySem.W.Frag} {r : RA} {H : Hp}
theorem jok_tup {a : Addr} {xs : List D} {vs : List V} (q : SqT K H a vs) (t : RepL K r H xs vs) : JOk ω K (Itt K a) (.its xs) r H := by
  intro b s r' H' i fx R
  have hp := fx.pre
  have hx := fx.ext
  refine ⟨fun e => ?_, fun d e => ?_⟩
  · simp only [Src.at, Option.some.injEq, List.getElem?_eq_none_iff] at e
    exact ⟨vs, hx.sqT q, by rw [t.length]; exact e⟩
  · simp only [Src.at, Option.some.injEq] at e
    obtain ⟨v, e1, e2⟩ := t.get e
    refine ⟨⟨vs, v, hx.sqT q, e1⟩, fun x H2 z => ?_⟩
    obtain ⟨rfl, z⟩ := z
    have z2 := z vs (hx.sqT q)
    rw [e1] at z2
    cases z2
    exact ⟨Same.refl _, Rep.mono hp hx d _ e2⟩
theorem jok_live {a : Addr} {p : Nat} {w : Bool} (ha : r[p]? = some (a, w)) : JOk ω K (Itl K a) (.live p) r H := by
  intro b s r' H' i fx R
  have hp := fx.pre
  have hx := fx.ext
  have ha' : r'[p]? = some (a, w) := by
    obtain ⟨t, rfl⟩ := hp
    rw [List.getElem?_append_left (List.getElem?_eq_some_iff.mp ha).1]
    exact ha
  refine ⟨fun e => ?_, fun d e => ?_⟩
  · simp only [Src.at] at e
    split at e
    · rename_i w xs hm
      simp only [Option.some.injEq, List.getElem?_eq_none_iff] at e
      obtain ⟨vs, q, t⟩ := (R.ob hm ha').sq
      exact ⟨vs, q, by rw [t.length]; exact e⟩
    · cases e
  · simp only [Src.at] at e
    split at e
    · rename_i w xs hm
      simp only [Option.some.injEq] at e
      obtain ⟨vs, q, t⟩ := (R.ob hm ha').sq
      obtain ⟨v, e1, e2⟩ := t.get e
      refine ⟨⟨vs, v, q, e1⟩, fun x H2 z => ?_⟩
      obtain ⟨rfl, z⟩ := z
      have z2 := z vs q
      rw [e1] at z2
      cases z2
      exact ⟨Same.refl _, e2⟩
    · cases e
theorem jok_rng {lo : Int} {n : Nat} : JOk ω K (Itr lo n) (.rng lo n) r H := by
  intro b s r' H' i fx R
  have hp := fx.pre
  have hx := fx.ext
  refine ⟨fun e => ?_, fun d e => ?_⟩
  · simp only [Src.at, Option.some.injEq] at e
    split at e
    · cases e
    · rename_i h
      exact Nat.le_of_not_lt h
  · simp only [Src.at, Option.some.injEq] at e
    split at e
    · rename_i h
      cases e
      refine ⟨h, fun x H2 z => ?_⟩
      obtain ⟨rfl, rfl⟩ := z
      exact ⟨Same.refl _, rfl⟩
    · cases e
theorem zip_at {xs ys : List D} {i : Nat} {d : D} (h : (List.zipWith (fun x y => D.tup [x, y]) xs ys)[i]? = some d) : ∃ x y, xs[i]? = some x ∧ ys[i]? = some y ∧ d = .tup [x, y] := by
  rw [List.getElem?_zipWith] at h
  split at h
  · rename_i x y e1 e2
    cases h
    exact ⟨x, y, e1, e2, rfl⟩
  · cases h
theorem jok_zip {a c : Addr} {xs ys : List D} {vs ws : List V} (q : SqT K H a vs) (t : RepL K r H xs vs) (q2 : SqT K H c ws) (t2 : RepL K r H ys ws) : JOk ω K (RZ.ItzT K a c) (.its (List.zipWith (fun x y => .tup [x, y]) xs ys)) r H := by
  intro b s r' H' i fx R
  have hp := fx.pre
  have hx := fx.ext
  refine ⟨fun e => ?_, fun d e => ?_⟩
  · simp only [Src.at, Option.some.injEq, List.getElem?_eq_none_iff, List.length_zipWith] at e
    refine ⟨vs, ws, hx.sqT q, hx.sqT q2, ?_⟩
    rw [t.length, t2.length]
    omega
  · simp only [Src.at, Option.some.injEq] at e
    obtain ⟨x, y, ex, ey, rfl⟩ := zip_at e
    obtain ⟨v, e1, e2⟩ := t.get ex
    obtain ⟨w, f1, f2⟩ := t2.get ey
    refine ⟨⟨vs, ws, v, w, hx.sqT q, hx.sqT q2, e1, f1⟩, fun z H2 hz => ?_⟩
    obtain ⟨T, x', y', rfl, hT, rfl, g1, g2⟩ := hz
    have z1 := g1 vs (hx.sqT q)
    have z2 := g2 ws (hx.sqT q2)
    rw [e1] at z1
    rw [f1] at z2
    cases z1
    cases z2
    refine ⟨Same.new hT, T, [v, w], rfl, SqT.of upd_same, v, [w], rfl, ?_, w, [], rfl, ?_, rfl⟩
    · exact Rep.mono hp (hx.trans (Ext.new hT)) x v e2
    · exact Rep.mono hp (hx.trans (Ext.new hT)) y w f2
end
end PV
set_option Elab.async false
set_option linter.all false
set_option autoImplicit false
set_option maxRecDepth 100000
set_option maxHeartbeats 1000000
namespace PV
open PySem PySem.Spec PyProof.Rows L2
variable {τ : TBT}
section
variable {P : Ev} {C : Cn} {cur : Cur} {W : WX} {X : Cx} {a b c : CE} {as : List CE} {l m r e : Expr} {es : List Expr} {pos : Pos}
theorem PostG.self {α β : Type} {bb : List MO} {RP : RA → Hp → α → β → Prop} {K : PySem.W.Frag} {σ : Sl} {rr : RA} {H : Hp} {x : α} {s : HS bb} {v : β} {Q : β → Hp → Prop} (h : PostG RP K C W σ rr H (.ok x s) Q) (R : Rel C.w K rr s.M H) (q : RP rr H x v) : Q v H :=
  h rr H v (Fx.refl rr H) R q
theorem st_cst {d : D} {v : V} (h : PE X e (tC v)) (hv : ∀ K r H, Rep K r H d v) : PE X e (tE X.K C P cur W (.cst d)) := PE.imp h fun σ H Q ⟨bb, s, rr, en, o, R, E, ev, post⟩ => by
  simp only [evE, ret] at ev
  cases ev
  exact post.self R (hv _ _ _)
theorem st_var {i : Nat} (h : PE X e (tVar i)) : PE X e (tE X.K C P cur W (.var i)) := PE.imp h fun σ H Q ⟨bb, s, rr, en, o, R, E, ev, post⟩ => by
  simp only [evE, ret] at ev
  split at ev
  · rename_i d hd
    cases ev
    obtain ⟨v, e1, e2⟩ := E.2.1 i d hd
    exact ⟨v, e1, post.self R e2⟩
  · cases ev
theorem st_glb {x : Str} {i : Int} (h : PE X e (tC (.int i))) : PE X e (tE X.K C P cur W (.glb x i)) := PE.imp h fun σ H Q ⟨bb, s, rr, en, o, R, E, ev, post⟩ => by
  simp only [evE, ret] at ev
  cases ev
  exact post.self R rfl
theorem two_then {K : PySem.W.Frag} {bb : List MO} {s : HS bb} {rr : RA} {H : Hp} {σ : Sl} {en : Env} {o : Out bb D} {Q : VK} {F : D → D → HS bb → R bb D} {rd : R2} (R : Rel C.w K rr s.M H) (E : EnvR C K rr H en σ)
    (ev : bnd (evE P cur a en s) (fun x s1 => bnd (evE P cur b en s1) fun y s2 => F x y s2) = some o) (post : PostG (RD K) K C W σ rr H o Q)
    (fin : ∀ x y s2 r2 H2 v w, F x y s2 = some o → Rel C.w K r2 s2.M H2 → Rep K r2 H2 x v → Rep K r2 H2 y w → PostG (RD K) K C W σ r2 H2 o Q → rd v w H2 Q) : tOp rd (tE K C P cur W a) (tE K C P cur W b) σ H Q := by
  refine tN.seq R E ev post fun x s1 r1 H1 v fx1 ev1 R1 E1 q1 post1 => ?_
  refine ⟨bb, s1, r1, en, ?_⟩
  cases h2 : evE P cur b en s1 with
  | none => rw [h2] at ev1; cases ev1
  | some o1 =>
    rw [h2] at ev1
    refine ⟨o1, R1, E1, h2, ?_⟩
    cases o1 with
    | ok y s2 => exact fun r2 H2 w fx R2 q2 => fin x y s2 r2 H2 v w ev1 R2 (Rep.mono fx.pre fx.ext _ _ q1) q2 (post1.mono fx)
    | ex c fs s2 =>
      cases ev1
      exact post1
theorem post_then {K : PySem.W.Frag} {bb : List MO} {rr : RA} {H : Hp} {σ : Sl} {d : D} {s : HS bb} {Q : VK} (h : PostG (RD K) K C W σ rr H (.ok d s) Q) : Then C.tb C.w K rr H d s.M Q := h
theorem st_bin {o : B2} (ha : PE X l (tE X.K C P cur W a)) (hb : PE X r (tE X.K C P cur W b)) : PE X (.BinOp l o.op r pos) (tE X.K C P cur W (.bin o a b)) :=
  PE.imp (pe_op (op_bin o) ha hb) fun σ H Q ⟨bb, s, rr, en, u, R, E, ev, post⟩ => by
    simp only [evE] at ev
    refine two_then R E ev post fun x y s2 r2 H2 v w ef R2 q1 q2 p2 => ?_
    cases u with
    | ok d s3 => exact ⟨bb, s2, s3, r2, x, y, d, R2, q1, q2, ef, p2⟩
    | ex c fs s3 => exact (bin_noex ef).elim
theorem st_neg (ha : PE X l (tE X.K C P cur W a)) : PE X (.UnaryOp .USub l pos) (tE X.K C P cur W (.neg a)) :=
  PE.imp (pe_un un_neg ha) fun σ H Q ⟨bb, s, rr, en, u, R, E, ev, post⟩ => by
    simp only [evE] at ev
    refine tN.seq R E ev post fun x s1 r1 H1 v fx1 ev1 R1 E1 q1 post1 => ?_
    split at ev1
    · rename_i i
      cases ev1
      exact ⟨i, q1, post1.self R1 rfl⟩
    · cases ev1
theorem st_cmp (hw : C.w = X.w) (hu : X.A.units + 128 < cLine) {o : C2} (hmk : behindInMarks o.op r = false) (ha : PE X l (tE X.K C P cur W a)) (hb : PE X r (tE X.K C P cur W b)) : PE X (.Compare l [o.op] [r] pos) (tE X.K C P cur W (.cmp o a b)) :=
  PE.imp (pe_cmpR (op_cmp hw hu o) ha hb hmk) fun σ H Q ⟨bb, s, rr, en, u, R, E, ev, post⟩ => by
    simp only [evE] at ev
    refine two_then R E ev post fun x y s2 r2 H2 v w ef R2 q1 q2 p2 => ?_
    obtain ⟨k, rfl⟩ := cmp_pure ef
    exact ⟨bb, s2, s2, r2, x, y, _, R2, q1, q2, ef, p2⟩
theorem tst_bl {bb : List MO} {k : Bool} {s : HS bb} : tst (some (.ok (.bl k) s)) = some (.ok k s) := rfl
theorem pt_of (h : PE X e (tE X.K C P cur W a)) (he : ∀ whole, isTrue e X.env whole = (do let v ← whole; standAt e.pos; holding [v] (truthy v))) : PT X e (tT X.K C P cur W a) :=
  PT.imp (pt_truth h he) fun σ H Q ⟨bb, s, rr, en, u, R, E, ev, post⟩ => by
    refine tN.seq R E ev post fun x s1 r1 H1 v fx1 ev1 R1 E1 q1 post1 => ?_
    split at ev1
    · rename_i k ek
      cases ev1
      exact ⟨k, truth_ok R1 q1 ek, post1.self R1 rfl⟩
    · cases ev1
theorem tt_cmp (hw : C.w = X.w) (hu : X.A.units + 128 < cLine) {o : C2} (hmk : behindInMarks o.op r = false) (ha : PE X l (tE X.K C P cur W a)) (hb : PE X r (tE X.K C P cur W b)) : PT X (.Compare l [o.op] [r] pos) (tT X.K C P cur W (.cmp o a b)) :=
  PT.imp (pt_cmpR (op_cmp hw hu o) ha hb hmk) fun σ H Q ⟨bb, s, rr, en, u, R, E, ev, post⟩ => by
    simp only [evE, tst] at ev
    refine tN.seq (F := fun x s1 => bnd (bnd (evE P cur b en s1) fun y s2 => cmp o x y s2) fun d s => match truth s.M d with | some b => ret b s | none => none) R E (by
      rw [← ev]
      cases evE P cur a en s with
      | none => rfl
      | some o1 => cases o1 <;> rfl) post fun x s1 r1 H1 v fx1 ev1 R1 E1 q1 post1 => ?_
    refine ⟨bb, s1, r1, en, ?_⟩
    cases h2 : evE P cur b en s1 with
    | none => rw [h2] at ev1; cases ev1
    | some o1 =>
      rw [h2] at ev1
      refine ⟨o1, R1, E1, h2, ?_⟩
      cases o1 with
      | ex c fs s2 =>
        cases ev1
        exact post1
      | ok y s2 =>
        intro r2 H2 w fx R2 q2
        cases h3 : cmp o x y s2 with
        | none =>
          rw [show bnd (some (Out.ok y s2)) (fun y s2 => cmp o x y s2) = cmp o x y s2 from rfl, h3] at ev1
          cases ev1
        | some o2 =>
          obtain ⟨k, rfl⟩ := cmp_pure h3
          rw [show bnd (some (Out.ok y s2)) (fun y s2 => cmp o x y s2) = cmp o x y s2 from rfl, h3] at ev1
          cases ev1
          refine ⟨bb, s2, s2, r2, x, y, _, R2, Rep.mono fx.pre fx.ext _ _ q1, q2, h3, fun r3 H3 z fx3 R3 q3 => ?_⟩
          exact ⟨k, q3, (post1.mono fx) r3 H3 k fx3 R3 rfl⟩
theorem st_nt (ha : PE X l (tE X.K C P cur W a)) : PE X (.UnaryOp .Not l pos) (tE X.K C P cur W (.nt a)) :=
  PE.imp (pe_notT ha) fun σ H Q ⟨bb, s, rr, en, u, R, E, ev, post⟩ => by
    simp only [evE] at ev
    refine tN.seq R E ev post fun x s1 r1 H1 v fx1 ev1 R1 E1 q1 post1 => ?_
    split at ev1
    · rename_i k ek
      cases ev1
      exact ⟨k, truth_ok R1 q1 ek, post1.self R1 rfl⟩
    · cases ev1
theorem tt_nt (ha : PT X l (tT X.K C P cur W a)) : PT X (.UnaryOp .Not l pos) (tT X.K C P cur W (.nt a)) :=
  PT.imp (pt_not ha) fun σ H Q ⟨bb, s, rr, en, u, R, E, ev, post⟩ => by
    refine tN.seq (F := fun k s1 => ret (!k) s1) R E (by
      rw [← ev]
      simp only [evE, tst]
      cases evE P cur a en s with
      | none => rfl
      | some o1 =>
        cases o1 with
        | ex c fs s1 => rfl
        | ok d s1 =>
          show bnd (match truth s1.M d with | some b => ret b s1 | none => none) (fun k s1 => ret (!k) s1) = bnd (match truth s1.M d with | some b => ret (D.bl (!b)) s1 | none => none) _
          cases truth s1.M d <;> rfl) post fun k s1 r1 H1 v fx1 ev1 R1 E1 q1 post1 => ?_
    cases ev1
    subst q1
    exact post1.self R1 rfl
theorem st_ite (hc : PT X m (tT X.K C P cur W c)) (ha : PE X l (tE X.K C P cur W a)) (hb : PE X r (tE X.K C P cur W b)) : PE X (.IfExp m l r pos) (tE X.K C P cur W (.ite c a b)) :=
  PE.imp (pe_ifExp hc ha hb) fun σ H Q ⟨bb, s, rr, en, u, R, E, ev, post⟩ => by
    refine tN.seq (F := fun k s1 => if k then evE P cur a en s1 else evE P cur b en s1) R E (by
      rw [← ev]
      simp only [evE, tst]
      cases evE P cur c en s with
      | none => rfl
      | some o1 =>
        cases o1 with
        | ex c fs s1 => rfl
        | ok d s1 =>
          show bnd (match truth s1.M d with | some b => ret b s1 | none => none) _ = (match truth s1.M d with | some true => _ | some false => _ | none => none)
          cases truth s1.M d with
          | none => rfl
          | some k => cases k <;> rfl) post fun k s1 r1 H1 v fx1 ev1 R1 E1 q1 post1 => ?_
    subst q1
    cases v with
    | true => exact iteT ⟨bb, s1, r1, en, u, R1, E1, ev1, post1⟩
    | false => exact iteF ⟨bb, s1, r1, en, u, R1, E1, ev1, post1⟩
theorem pt_ite {tc ta tb : TT} (hc : PT X m tc) (ha : PT X l ta) (hb : PT X r tb) : PT X (.IfExp m l r pos) (fun σ H Q => tc σ H fun k H1 => if k = true then ta σ H1 Q else tb σ H1 Q) := by
  refine ⟨fun pins s σ H Q I h => ?_⟩
  show wpAny _ _ (isTrue m X.env (eval m X.env) >>= fun k => if k = true then isTrue l X.env (eval l X.env) else isTrue r X.env (eval r X.env)) _ _ _
  refine wpAny_bind (thn (hc.run pins s σ H _ I h) fun k s1 ⟨H1, I1, q1⟩ => ?_)
  cases k with
  | true => exact ha.run pins s1 σ H1 Q I1 q1
  | false => exact hb.run pins s1 σ H1 Q I1 q1
theorem tt_ite (hc : PT X m (tT X.K C P cur W c)) (ha : PT X l (tT X.K C P cur W a)) (hb : PT X r (tT X.K C P cur W b)) : PT X (.IfExp m l r pos) (tT X.K C P cur W (.ite c a b)) :=
  PT.imp (pt_ite hc ha hb) fun σ H Q ⟨bb, s, rr, en, u, R, E, ev, post⟩ => by
    refine tN.seq (F := fun k s1 => if k then tst (evE P cur a en s1) else tst (evE P cur b en s1)) R E (by
      rw [← ev]
      simp only [evE, tst]
      cases evE P cur c en s with
      | none => rfl
      | some o1 =>
        cases o1 with
        | ex c fs s1 => rfl
        | ok d s1 =>
          show bnd (match truth s1.M d with | some b => ret b s1 | none => none) _ = bnd (match truth s1.M d with | some true => evE P cur a en s1 | some false => evE P cur b en s1 | none => none) _
          cases truth s1.M d with
          | none => rfl
          | some k => cases k <;> rfl) post fun k s1 r1 H1 v fx1 ev1 R1 E1 q1 post1 => ?_
    subst q1
    cases v with
    | true => exact iteT ⟨bb, s1, r1, en, u, R1, E1, ev1, post1⟩
    | false => exact iteF ⟨bb, s1, r1, en, u, R1, E1, ev1, post1⟩
theorem st_nil : PA X [] (tL X.K C P cur W []) := PA.imp pa_nil fun σ H Q ⟨bb, s, rr, en, u, R, E, ev, post⟩ => by
  simp only [evL, ret] at ev
  cases ev
  exact post.self R rfl
theorem st_cons (ha : PE X e (tE X.K C P cur W a)) (hr : PA X es (tL X.K C P cur W as)) (hs : starEach (e :: es) X.env = (false, eval e X.env) :: starEach es X.env) : PA X (e :: es) (tL X.K C P cur W (a :: as)) :=
  PA.imp (pa_cons ha hr hs) fun σ H Q ⟨bb, s, rr, en, u, R, E, ev, post⟩ => by
    simp only [evL] at ev
    refine tN.seq R E ev post fun x s1 r1 H1 v fx1 ev1 R1 E1 q1 post1 => ?_
    refine tN.seq (ev := fun e s => evL P cur as e s) (RP := RDL X.K) R1 E1 ev1 post1 fun xs s2 r2 H2 vs fx2 ev2 R2 E2 q2 post2 => ?_
    cases ev2
    exact post2.self R2 ⟨v, vs, rfl, Rep.mono fx2.pre fx2.ext _ _ q1, q2⟩
theorem st_tup {k : Nat} (h : PA X es (tL X.K C P cur W as)) : PE X (.Tuple es k pos) (tE X.K C P cur W (.tup as)) :=
  PE.imp (pe_tup h) fun σ H Q ⟨bb, s, rr, en, u, R, E, ev, post⟩ => by
    simp only [evE] at ev
    refine tN.seq R E ev post fun xs s1 r1 H1 vs fx1 ev1 R1 E1 q1 post1 => ?_
    split at ev1
    · rename_i z
      cases ev1
      exact ⟨by rw [RepL.length q1]; exact sizeOk_le z, fun p hp => Then.tup (post_then post1) R1 q1 p hp⟩
    · cases ev1
theorem st_lst (h : PA X es (tL X.K C P cur W as)) : PE X (.List es pos) (tE X.K C P cur W (.lst as)) :=
  PE.imp (pe_lst h) fun σ H Q ⟨bb, s, rr, en, u, R, E, ev, post⟩ => by
    simp only [evE] at ev
    refine tN.seq R E ev post fun xs s1 r1 H1 vs fx1 ev1 R1 E1 q1 post1 => ?_
    split at ev1
    · rename_i z
      cases ev1
      exact ⟨by rw [RepL.length q1]; exact sizeOk_le z, fun p hp => Then.lst (post_then post1) R1 q1 p hp⟩
    · cases ev1
theorem st_dct0 (hw : C.w = X.w) : PE X (.Dict [] [] pos) (tE X.K C P cur W .dct0) :=
  PE.imp pe_dnewX fun σ H Q ⟨bb, s, rr, en, u, R, E, ev, post⟩ => by
    simp only [evE, ret] at ev
    cases ev
    intro d hd
    exact post (rr ++ [(d, true)]) _ _ (Fx.alloc hd) (R.alloc hd rfl ⟨[], by rw [hw]; exact upd_same, List.nodup_nil, rfl⟩) ⟨d, true, by rw [← R.len]; simp, rfl⟩
theorem st_idx (hw : C.w = X.w) (hu : X.A.units + 128 < cLine) (ha : PE X l (tE X.K C P cur W a)) (hb : PE X r (tE X.K C P cur W b)) (hs : PlainIx r) : PE X (.Subscript l r pos) (tE X.K C P cur W (.idx a b)) :=
  PE.imp (pe_ix (ix_idx hw hu) ha hb hs) fun σ H Q ⟨bb, s, rr, en, u, R, E, ev, post⟩ => by
    simp only [evE] at ev
    refine two_then R E ev post fun x y s2 r2 H2 v w ef R2 q1 q2 p2 => ?_
    obtain ⟨d, rfl⟩ := index_pure ef
    exact ⟨bb, s2, s2, r2, x, y, d, R2, q1, q2, ef, p2⟩
theorem st_none : PO X none (tOp' X.K C P cur W none) := PO.imp po_none fun σ H Q ⟨bb, s, rr, en, u, R, E, ev, post⟩ => by
  simp only [evO, ret] at ev
  cases ev
  exact post.self R rfl
theorem st_some (ha : PE X e (tE X.K C P cur W a)) : PO X (some e) (tOp' X.K C P cur W (some a)) := PO.imp (po_some ha) fun σ H Q ⟨bb, s, rr, en, u, R, E, ev, post⟩ => by
  simp only [evO] at ev
  refine tN.seq R E ev post fun x s1 r1 H1 v fx1 ev1 R1 E1 q1 post1 => ?_
  split at ev1
  · rename_i i
    cases ev1
    exact ⟨i, q1, post1.self R1 rfl⟩
  · cases ev1
theorem st_slc {lo hi : Option CE} {el eh : Option Expr} {p2 : Pos} (ha : PE X l (tE X.K C P cur W a)) (hl : PO X el (tOp' X.K C P cur W lo)) (hh : PO X eh (tOp' X.K C P cur W hi)) : PE X (.Subscript l (.Slice el eh none p2) pos) (tE X.K C P cur W (.slc a lo hi)) :=
  PE.imp (pe_slice sl_slc ha hl hh) fun σ H Q ⟨bb, s, rr, en, u, R, E, ev, post⟩ => by
    simp only [evE] at ev
    refine tN.seq R E ev post fun x s1 r1 H1 v fx1 ev1 R1 E1 q1 post1 => ?_
    refine tN.seq (ev := fun e s => evO P cur lo e s) (RP := ROI) R1 E1 ev1 post1 fun il s2 r2 H2 wl fx2 ev2 R2 E2 q2 post2 => ?_
    refine tN.seq (ev := fun e s => evO P cur hi e s) (RP := ROI) R2 E2 ev2 post2 fun ih s3 r3 H3 wh fx3 ev3 R3 E3 q3 post3 => ?_
    subst q2 q3
    obtain ⟨d, s4, rfl⟩ := slice_ok ev3
    exact ⟨bb, s3, s4, r3, x, d, R3, Rep.mono (fx2.trans fx3).pre (fx2.trans fx3).ext _ _ q1, ev3, post3⟩
theorem st_call {f k j : Nat} {fa : Addr} {fd : FuncData} {ps : List Str} {x : Str} {p : Pos} (F : FnG X.prog X.w X.K X.mg X.base j fa fd ps (spOf X.K C P.cf f)) (hr : Room j X.A) (hgd : X.A.guards = some []) (hg : Gl X x) (hm : X.mg x = some (.ref fa)) (hk : PySem.W.keepIn X.K (.ref fa) = true) (hb : Binds X.K fd ps [])
    (tk : Takes X W) (ha : PA X es (tL X.K C P cur W as)) (hdb : (x == ("__debug__" : Str)) = false) (he : ∀ e es', es = e :: es' → starEach (e :: es') X.env = (false, eval e X.env) :: starEach es' X.env) (hpl : ∀ e es', es = e :: es' → (backTo pos (starEach es' X.env)).any (·.1) = false) (hn : es = [] → as = []) :
    PE X (.Call (.Name x p) es [] pos) (tE X.K C P cur W (.call f as)) := by
  cases es with
  | nil =>
    have e := hn rfl
    subst e
    refine PE.imp (pe_g0 F hr hgd hg hm hk hb tk hdb) fun σ H Q ⟨bb, s, rr, en, u, R, E, ev, post⟩ => ?_
    simp only [evE, evL] at ev
    refine ⟨bb, s, rr, [], u, R, E.2.2.2, rfl, ev, ?_⟩
    cases u with
    | ok d s1 => exact post
    | ex c fs s1 => exact post
  | cons e0 es0 =>
    refine PE.imp (pe_g F hr hgd hg hm hk hb tk ha hdb (he e0 es0 rfl) (hpl e0 es0 rfl)) fun σ H Q ⟨bb, s, rr, en, u, R, E, ev, post⟩ => ?_
    simp only [evE] at ev
    refine tN.seq R E ev post fun xs s1 r1 H1 vs fx1 ev1 R1 E1 q1 post1 => ?_
    refine ⟨bb, s1, r1, xs, u, R1, E1.2.2.2, q1, ev1, ?_⟩
    cases u with
    | ok d s2 => exact post1
    | ex c fs s2 => exact post1
theorem kw_names {env : PySem.Env} {pos : Pos} : ∀ {kws : List Keyword} {ks : List Str}, kws.map (·.arg) = ks.map some → (backToKw pos (keywordEach kws env)).all (·.1.isSome) = true ∧ (backToKw pos (keywordEach kws env)).filterMap (·.1) = ks ∧ (backToKw pos (keywordEach kws env)).any (·.1.isNone) = false
  | [], [], _ => ⟨rfl, rfl, rfl⟩
  | [], _ :: _, h => by cases h
  | _ :: _, [], h => by cases h
  | ⟨a, v, p⟩ :: kws, k :: ks, h => by
    rw [List.map_cons, List.map_cons, List.cons.injEq] at h
    obtain ⟨h1, h2⟩ := h
    have h1' : a = some k := h1
    subst h1'
    obtain ⟨e1, e2, e3⟩ := kw_names (env := env) (pos := pos) (kws := kws) (ks := ks) h2
    refine ⟨?_, ?_, ?_⟩
    · show (true && (backToKw pos (keywordEach kws env)).all (·.1.isSome)) = true
      rw [e1]
      rfl
    · show k :: (backToKw pos (keywordEach kws env)).filterMap (·.1) = k :: ks
      rw [e2]
    · show (false || (backToKw pos (keywordEach kws env)).any (·.1.isNone)) = false
      rw [e3]
      rfl
theorem st_callk {f k j : Nat} {fa : Addr} {fd : FuncData} {ps ks : List Str} {x : Str} {p : Pos} {kes : List CE} {kws : List Keyword} (F : FnG X.prog X.w X.K X.mg X.base j fa fd ps (spOf X.K C P.cf f)) (hr : Room j X.A) (hgd : X.A.guards = some []) (hg : Gl X x) (hm : X.mg x = some (.ref fa)) (hk : PySem.W.keepIn X.K (.ref fa) = true) (hb : ∀ a, P.ar f = some a → KaOk X.K fd ps a)
    (tk : Takes X W) (ha : PA X es (tL X.K C P cur W as)) (hkw : PK X kws (tL X.K C P cur W kes)) (hks : kws.map (·.arg) = ks.map some) (hdb : (x == ("__debug__" : Str)) = false) (he : ∀ e es', es = e :: es' → starEach (e :: es') X.env = (false, eval e X.env) :: starEach es' X.env) (hpl : ∀ e es', es = e :: es' → (backTo pos (starEach (e :: es') X.env)).any (·.1) = false) (hn : es = [] → as = []) :
    PE X (.Call (.Name x p) es kws pos) (tE X.K C P cur W (.callk f as ks kes)) := by
  obtain ⟨n1, n2, n3⟩ := kw_names (env := X.env) (pos := pos) hks
  have key : ∀ {σ : Sl} {H1 : Hp} {Q : VK} {bb : List MO} {s1 : HS bb} {r1 : RA} {en : Env} {u : Out bb D} {xs : List D} {vs : List V} {a : ArI}, P.ar f = some a → Rel C.w X.K r1 s1.M H1 → EnvR C X.K r1 H1 en σ → RepL X.K r1 H1 xs vs → PostG (RD X.K) X.K C W σ r1 H1 u Q →
      (bnd (evL P cur kes en s1) fun ys s2 => (match arr a xs ks ys with
        | some zs => P.cf f zs s2
        | none => none)) = some u → tL X.K C P cur W kes σ H1 fun ws H2 => ∃ (r : RA) (xs ys zs : List D), RepL X.K r H2 xs vs ∧ RepL X.K r H2 ys ws ∧ arr a xs ks ys = some zs ∧ ∀ zv, RepL X.K r H2 zs zv → spOf X.K C P.cf f zv H2 Q fun c d H' => W c d σ H' := by
    intro σ H1 Q bb s1 r1 en u xs vs a ea R1 E1 q1 post1 ev1
    refine tN.seq (ev := fun e s => evL P cur kes e s) (RP := RDL X.K) R1 E1 ev1 post1 fun ys s2 r2 H2 ws fx2 ev2 R2 E2 q2 post2 => ?_
    split at ev2
    · rename_i zs hz
      refine ⟨r2, xs, ys, zs, RepL.mono fx2.pre fx2.ext _ _ q1, q2, hz, fun zv hzv => ⟨bb, s2, r2, zs, u, R2, E2.2.2.2, hzv, ev2, ?_⟩⟩
      cases u with
      | ok d s3 => exact post2
      | ex c fs s3 => exact post2
    · cases ev2
  cases ea : P.ar f with
  | none => exact ⟨fun pins s0 σ H Q I ⟨bb, s, rr, en, u, R, E, ev, post⟩ => by
      simp only [evE, ea] at ev
      cases ev⟩
  | some a =>
    cases es with
    | nil =>
      have e := hn rfl
      subst e
      refine PE.imp (pe_gk0 F hr hgd hg hm hk (hb a ea) tk hkw n1 n2 hdb (by rw [n3]; rfl)) fun σ H Q ⟨bb, s, rr, en, u, R, E, ev, post⟩ => ?_
      simp only [evE, evL, ea] at ev
      exact key (xs := []) (vs := []) ea R E rfl post ev
    | cons e0 es0 =>
      refine PE.imp (pe_gk F hr hgd hg hm hk (hb a ea) tk ha hkw n1 n2 hdb (he e0 es0 rfl) (by rw [n3, hpl e0 es0 rfl]; rfl)) fun σ H Q ⟨bb, s, rr, en, u, R, E, ev, post⟩ => ?_
      simp only [evE, ea] at ev
      refine tN.seq R E ev post fun xs s1 r1 H1 vs fx1 ev1 R1 E1 q1 post1 => ?_
      exact key ea R1 E1 q1 post1 ev1
theorem st_bi {g : BI} {x : Str} {p : Pos} {rest : List Expr} (hc : CallR X g.val (rF C.tb C.w X.K g)) (hg : Gl X x) (hm : X.mg x = none) (hv : bootBuiltins x = some g.val) (ha : PA X (e :: rest) (tL X.K C P cur W as)) (hn : x ≠ "__name__") (hdb : (x == ("__debug__" : Str)) = false)
    (he : starEach (e :: rest) X.env = (false, eval e X.env) :: starEach rest X.env) (hpl : (backTo pos (starEach rest X.env)).any (·.1) = false) : PE X (.Call (.Name x p) (e :: rest) [] pos) (tE X.K C P cur W (.bi g as)) := by
  have h : PE X (.Call (.Name x p) (e :: rest) [] pos) (tCB (rF C.tb C.w X.K g) (tL X.K C P cur W as)) := by
    cases g <;> first
      | exact pe_callB hc hg hm hv ha hn hdb he hpl
      | exact pe_callTy hc hg hm hv ha hn hdb he hpl
  refine PE.imp h fun σ H Q ⟨bb, s, rr, en, u, R, E, ev, post⟩ => ?_
  simp only [evE] at ev
  refine tN.seq R E ev post fun xs s1 r1 H1 vs fx1 ev1 R1 E1 q1 post1 => ?_
  obtain ⟨d, s2, rfl⟩ := call_ok ev1
  exact ⟨bb, s1, s2, r1, xs, d, R1, q1, ev1, post1⟩
def MT.ty : MT → String
  | .append => "list"
  | .get => "dict"
def MT.id : MT → String
  | .append => "list.append"
  | .get => "dict.get"
def rM (τ : TBT) (ω : World) (K : PySem.W.Frag) (m : MT) : V → List V → Hp → VK → Prop := fun x vs H Q => ∃ (bb : List MO) (s s1 : HS bb) (r : RA) (d : D) (ds : List D) (y : D), Rel ω K r s.M H ∧ Rep K r H d x ∧ RepL K r H ds vs ∧ meth m d ds s = some (.ok y s1) ∧ Then τ ω K r H y s1.M Q
theorem base_ok {o : Expr} {n : Str} {env : PySem.Env} {w : Sem Value} (h : baseB o = true) : attributeBase o n env w = w := by
  cases o with
  | Call f args kws p =>
    cases f with
    | Name id p2 =>
      cases args with
      | cons _ _ => rfl
      | nil =>
        cases kws with
        | cons _ _ => rfl
        | nil =>
          have h' : (id != ("super" : Str)) = true := h
          show (if (id != "super" || n == "__class__" || env.kindOf "super" != some .globalImplicit || env.kindOf "__class__" != some .free) = true then _ else _) = _
          rw [h']
          rfl
    | _ => rfl
  | _ => rfl
theorem meth_ok {m : MT} {bb : List MO} {x : D} {xs : List D} {s : HS bb} {o : Out bb D} (h : meth m x xs s = some o) : ∃ d s1, o = .ok d s1 := by
  cases m with
  | append =>
    simp only [meth] at h
    split at h
    · split at h
      · split at h
        · cases h
          exact ⟨_, _, rfl⟩
        · cases h
      · cases h
    · cases h
  | get =>
    simp only [meth] at h
    split at h
    · split at h
      · split at h
        · cases h
          exact ⟨_, _, rfl⟩
        · cases h
      · cases h
    · split at h
      · split at h
        · cases h
          exact ⟨_, _, rfl⟩
        · cases h
      · cases h
    · cases h
theorem mr_append {ω : World} : MtR X "list.append" (rM τ ω X.K .append) := by
  intro pins s σ H x vs v us Q I rx rv h
  obtain ⟨bb, s0, s1, r, d, ds, y, R, q1, q2, ev, post⟩ := h
  simp only [meth] at ev
  split at ev
  · rename_i p z
    split at ev
    · rename_i ys hm
      split at ev
      · rename_i hz
        cases ev
        obtain ⟨a, w, ha, rfl⟩ := q1
        obtain ⟨v1, vr, rfl, qv, hr⟩ := q2
        cases (show vr = [] from hr)
        obtain ⟨hw, ws, hH, ht⟩ := R.obj p _ a w hm ha
        have hw' : w = true := hw
        subst hw'
        have hzz := sizeOk_le hz
        refine mt_append pins s σ H _ _ v us Q I rx rv ⟨a, ws, v1, rfl, rfl, hH, by rw [RepL.length ht]; omega, ?_⟩
        have hx := Ext.upd (u := .lst (ws ++ [v1])) hH rfl
        refine post r _ _ (Fx.upd hH rfl (List.mem_of_getElem? ha)) (R.set rfl ha ⟨_, upd_same, ?_⟩) rfl
        exact RepL.app (RepL.mono List.prefix_rfl hx _ _ ht) ⟨v1, [], rfl, Rep.mono List.prefix_rfl hx _ _ qv, rfl⟩
      · cases ev
    · cases ev
  · cases ev
theorem mr_get {ω : World} (hw : ω = X.w) (hu : X.A.units + 128 < cLine) : MtR X "dict.get" (rM τ ω X.K .get) := by
  intro pins s σ H x vs v us Q I rx rv h
  obtain ⟨bb, s0, s1, r, d, ds, y, R, q1, q2, ev, post⟩ := h
  simp only [meth] at ev
  split at ev
  · rename_i p k
    split at ev
    · rename_i ep kvs hm
      split at ev
      · rename_i hk
        cases ev
        obtain ⟨a, w, ha, rfl⟩ := q1
        obtain ⟨v1, vr, rfl, qv, hr⟩ := q2
        cases (show vr = [] from hr)
        obtain ⟨xs, e1, n, t⟩ := R.ob hm ha
        cases rx
        obtain ⟨u, rfl, ru⟩ := vals1 rv
        subst hw
        obtain ⟨D, hs, hz⟩ := dct_x I e1 n t
        have fin : ∃ z, RelV z ((valA xs (kD k)).getD .none) ∧ Q z H := by
          cases e : getK kvs k with
          | none =>
            rw [t.val0 e]
            rw [e] at post
            exact ⟨.non, rfl, post.self R rfl⟩
          | some d =>
            obtain ⟨z, z2, h1, h2, h3⟩ := t.val e
            rw [h1]
            rw [e] at post
            exact ⟨z2, h2, post.self R h3⟩
        obtain ⟨z, f1, f2⟩ := fin
        exact call_meetsIn F.slot_dict_get D.ty F.entry_dict_get (F.args_dict_get_2 _ _) (meets_get1 hs) ⟨by omega, _, ep, xs, key_at I hk qv ru, D, z, H, I.tok _, f1, f2⟩
      · cases ev
    · cases ev
  · rename_i p k dflt
    split at ev
    · rename_i ep kvs hm
      split at ev
      · rename_i hk
        cases ev
        obtain ⟨a, w, ha, rfl⟩ := q1
        obtain ⟨v1, vr, rfl, qv, v2, vr2, rfl, qv2, hr⟩ := q2
        cases (show vr2 = [] from hr)
        obtain ⟨xs, e1, n, t⟩ := R.ob hm ha
        cases rx
        obtain ⟨u, u2, rfl, ru, ru2⟩ := vals2 rv
        subst hw
        obtain ⟨D, hs, hz⟩ := dct_x I e1 n t
        have fin : ∃ z, RelV z ((valA xs (kD k)).getD u2) ∧ Q z H := by
          cases e : getK kvs k with
          | none =>
            rw [t.val0 e]
            rw [e] at post
            exact ⟨v2, ru2, post.self R qv2⟩
          | some d =>
            obtain ⟨z, z2, h1, h2, h3⟩ := t.val e
            rw [h1]
            rw [e] at post
            exact ⟨z2, h2, post.self R h3⟩
        obtain ⟨z, f1, f2⟩ := fin
        exact call_meetsIn F.slot_dict_get D.ty F.entry_dict_get (F.args_dict_get_3 _ _ _) (meets_get2 hs u2) ⟨by omega, _, ep, xs, key_at I hk qv ru, D, z, H, I.tok _, f1, f2⟩
      · cases ev
    · cases ev
  · cases ev
theorem mt_of {ω : World} (hw : ω = X.w) (hu : X.A.units + 128 < cLine) (m : MT) : MtR X m.id (rM τ ω X.K m) ∧ PlainAttrs m.ty ∧ Slot m.ty m.nm m.id ∧ typeOf (.builtin m.id) = pure (.type "method_descriptor") := by
  cases m with
  | append => exact ⟨mr_append, PySem.F.plainAttrs_list, PySem.F.slot_list_append, PySem.F.type_list_append⟩
  | get => exact ⟨mr_get hw hu, PySem.F.plainAttrs_dict, PySem.F.slot_dict_get, PySem.F.type_dict_get⟩
def tyX (ω : World) (K : PySem.W.Frag) (T : String) (x : V) (H : Hp) : Prop := tyV K T x H ∨ (T = "dict" ∧ ∃ a ep xs, x = .ref a ∧ H a = some (DctO ω a ep xs))
theorem tyX_is {ω : World} {pins : List (Addr × Obj)} {σ : L2.St} {H : Hp} {s : Shared} {T : String} {x : V} {v : Value} (I : Inv X pins σ H s) (q : RelV x v) (ty : tyX ω X.K T x H) : s.TypeIs v T ∧ ∀ a, v = .ref a → ∃ ob, s.heap.get? a = some ob ∧ ob.dict = none := by
  rcases ty with ty | ⟨rfl, a, ep, xs, rfl, ha⟩
  · exact tyV_is I q ty
  · cases q
    obtain ⟨⟨h1, h2, o, es, h3, h4, h5, h6⟩, _⟩ := I.hok a _ ha
    exact ⟨⟨o, h3, h4.1⟩, fun b e => by cases e; exact ⟨o, h3, h4.2.1⟩⟩
def tBX (ω : World) (K : PySem.W.Frag) (T : String) (f : V → List V → Hp → VK → Prop) (to : TE) (t : TA) : TE := fun σ H Q => to σ H fun x H1 => tyX ω K T x H1 ∧ t σ H1 fun xs H2 => f x xs H2 Q
theorem pe_bX {ω : World} {o : Expr} {name : Str} {apos cpos : Pos} {to : TE} {t : TA} {T id : String} {f : V → List V → Hp → VK → Prop} (pa : PlainAttrs T) (sl : Slot T name id) (ty : typeOf (.builtin id) = pure (.type "method_descriptor")) (hm : MtR X id f) (ho : PE X o to) (ha : PA X (e :: es) t)
    (hb : attributeBase o name X.env (eval o X.env) = eval o X.env)
    (hf : ((backTo cpos (starEach (e :: es) X.env)).all (fun x => !x.1) && (backToKw cpos (keywordEach [] X.env)).all (fun x => x.1.isSome) && decide ((e :: es).length + ([] : List Keyword).length + (if ([] : List Keyword).isEmpty then 0 else 1) < 30)) = true)
    (hl : (apos.endLine == cpos.line) = true) (hs : starEach (e :: es) X.env = (false, eval e X.env) :: starEach es X.env) (hp : (backTo cpos (starEach es X.env)).any (·.1) = false) :
    PE X (.Call (.Attribute o name apos) (e :: es) [] cpos) (tBX ω X.K T f to t) :=
  ⟨fun pins s σ H Q I h => wpAny_Call_method_late hb hf hl rfl (thn (ho.run pins s σ H _ I h) fun v s1 ⟨x, H1, I1, r1, tx, q1⟩ => by
    have z := tyX_is I1 r1 tx
    refine ⟨T, id, pa, sl, ty, z.1, z.2, ?_⟩
    have y := ha.run cpos pins s1 σ H1 _ I1 q1
    rw [hs] at y ⊢
    exact Calls.callWith_builtin (by rw [show backTo cpos ((false, eval e X.env) :: starEach es X.env) = (false, _) :: backTo cpos (starEach es X.env) from rfl, List.any_cons, hp]; rfl) (Calls.evalArgs_plain (thn y fun us s2 ⟨vs, H2, I2, r2, q2⟩ => hm pins s2 σ H2 x vs v us Q I2 r1 r2 q2)))⟩
theorem mtOk_ty {ω : World} {K : PySem.W.Frag} {m : MT} {bb : List MO} {s : HS bb} {rr : RA} {H : Hp} {d : D} {v : V} (h : mtOk m s.M d = true) (R : Rel ω K rr s.M H) (q : Rep K rr H d v) : tyX ω K m.ty v H := by
  unfold mtOk at h
  split at h
  · rename_i p
    split at h
    · rename_i ys hm
      obtain ⟨a, w, ha, rfl⟩ := q
      obtain ⟨ws, hq, ht⟩ := (R.ob hm ha).sq
      exact .inl (.inl ⟨rfl, ws, hq⟩)
    · rename_i ep kvs hm
      obtain ⟨a, w, ha, rfl⟩ := q
      obtain ⟨xs, e1, _⟩ := R.ob hm ha
      exact .inr ⟨rfl, a, ep, xs, rfl, e1⟩
    · cases h
  · cases h
theorem st_mt (hw : C.w = X.w) (hu : X.A.units + 128 < cLine) {m : MT} {o : Expr} {apos cpos : Pos} {rest : List Expr} (ho : PE X o (tE X.K C P cur W a)) (ha : PA X (e :: rest) (tL X.K C P cur W as)) (hb : baseB o = true) (hl : (apos.endLine == cpos.line) = true) (hn : (e :: rest).length < 29)
    (hns : (backTo cpos (starEach (e :: rest) X.env)).all (fun x => !x.1) = true) (he : starEach (e :: rest) X.env = (false, eval e X.env) :: starEach rest X.env) (hpl : (backTo cpos (starEach rest X.env)).any (·.1) = false) :
    PE X (.Call (.Attribute o m.nm apos) (e :: rest) [] cpos) (tE X.K C P cur W (.mt m a as)) := by
  obtain ⟨h1, h2, h3, h4⟩ := mt_of (X := X) hw hu m
  refine PE.imp (pe_bX (ω := C.w) h2 h3 h4 h1 ho ha (base_ok hb) (by
    rw [hns, Bool.true_and]
    show (true && decide ((e :: rest).length + 0 + 0 < 30)) = true
    rw [Bool.true_and]
    exact decide_eq_true (by omega)) hl he hpl) fun σ H Q ⟨bb, s, rr, en, u, R, E, ev, post⟩ => ?_
  simp only [evE] at ev
  refine tN.seq R E ev post fun x s1 r1 H1 v fx1 ev1 R1 E1 q1 post1 => ?_
  split at ev1
  · rename_i hok
    refine ⟨mtOk_ty hok R1 q1, ?_⟩
    refine tN.seq (ev := fun e s => evL P cur as e s) (RP := RDL X.K) R1 E1 ev1 post1 fun xs s2 r2 H2 vs fx2 ev2 R2 E2 q2 post2 => ?_
    obtain ⟨d, s3, rfl⟩ := meth_ok ev2
    exact ⟨bb, s2, s3, r2, x, xs, d, R2, Rep.mono fx2.pre fx2.ext _ _ q1, q2, ev2, post2⟩
  · cases ev1
theorem st_isi (hw : C.w = X.w) {t : TyC} {p p2 : Pos} (hg : Gl X "isinstance") (hm : X.mg "isinstance" = none) (hg2 : Gl X t.nm) (hm2 : X.mg t.nm = none) (hv2 : bootBuiltins t.nm = some (.type t.nm)) (hn2 : (t.nm : Str) ≠ "__name__") (hd2 : ((t.nm : Str) == ("__debug__" : Str)) = false)
    (ha : PE X e (tE X.K C P cur W a)) (he : starEach [e, .Name t.nm p2] X.env = (false, eval e X.env) :: starEach [.Name t.nm p2] X.env) : PE X (.Call (.Name "isinstance" p) [e, .Name t.nm p2] [] pos) (tE X.K C P cur W (.bi (.isi t) [a])) := by
  have hb : PE X (.Name t.nm p2) (tC (.ty t.nm)) := pe_bltn hg2 hm2 hv2 rfl hn2 hd2
  refine PE.imp (pe_callB (cr_isi (τ := C.tb) (ω := C.w) hw t) hg hm (by decide +kernel) (pa_cons ha (pa_cons hb pa_nil) he) (by decide) (by decide) he rfl) fun σ H Q ⟨bb, s, rr, en, u, R, E, ev, post⟩ => ?_
  simp only [evE, evL] at ev
  refine tN.seq (F := fun x s1 => PV.call (.isi t) [x] s1) R E (by
    rw [← ev]
    cases evE P cur a en s with
    | none => rfl
    | some o1 => cases o1 <;> rfl) post fun x s1 r1 H1 v fx1 ev1 R1 E1 q1 post1 => ?_
  obtain ⟨d, s2, rfl⟩ := call_ok ev1
  exact ⟨v, rfl, bb, s1, s2, r1, [x], d, R1, ⟨v, [], rfl, q1, rfl⟩, ev1, post1⟩
end
end PV
set_option Elab.async false
set_option linter.all false
set_option autoImplicit false
set_option maxRecDepth 100000
set_option maxHeartbeats 1000000
namespace PV
open PySem PySem.Spec PyProof.Rows L2
section
variable {P : Ev} {C : Cn} {cur : Cur} {W : WX} {X : Cx} {a b c : CE} {as : List CE} {l m r e : Expr} {es : List Expr} {pos : Pos}
theorem tst_post {K : PySem.W.Frag} {bb : List MO} {rr : RA} {H : Hp} {σ : Sl} {x : R bb D} {u : Out bb Bool} {Q : Bool → Hp → Prop} (h : tst x = some u) (post : PostG RBl K C W σ rr H u Q) (hb : ∀ d s, x = some (.ok d s) → ∃ k, d = .bl k) :
    ∃ o, x = some o ∧ PostG (RD K) K C W σ rr H o (fun v H' => ∃ k, v = .bl k ∧ Q k H') := by
  cases x with
  | none => cases h
  | some o =>
    refine ⟨o, rfl, ?_⟩
    cases o with
    | ex c fs s =>
      cases h
      exact post
    | ok d s =>
      obtain ⟨k, rfl⟩ := hb d s rfl
      cases h
      exact fun r' H' v fx R q => ⟨k, q, post r' H' k fx R rfl⟩
theorem chn_bl {o o2 : C2} {bb : List MO} {en : Env} {s s' : HS bb} {d : D} (h : evE P cur (.chn o o2 a b c) en s = some (.ok d s')) : ∃ k, d = .bl k := by
  simp only [evE] at h
  cases h1 : evE P cur a en s with
  | none => rw [h1] at h; cases h
  | some o1 =>
    rw [h1] at h
    cases o1 with
    | ex _ _ _ => cases h
    | ok x s1 =>
      simp only [bnd] at h
      cases h2 : evE P cur b en s1 with
      | none => rw [h2] at h; cases h
      | some o3 =>
        rw [h2] at h
        cases o3 with
        | ex _ _ _ => cases h
        | ok y s2 =>
          simp only at h
          cases h3 : cmp o x y s2 with
          | none => rw [h3] at h; cases h
          | some o4 =>
            rw [h3] at h
            obtain ⟨k, rfl⟩ := cmp_pure h3
            cases k with
            | false => cases h; exact ⟨_, rfl⟩
            | true =>
              simp only at h
              cases h4 : evE P cur c en s2 with
              | none => rw [h4] at h; cases h
              | some o5 =>
                rw [h4] at h
                cases o5 with
                | ex _ _ _ => cases h
                | ok z s3 =>
                  obtain ⟨k, q⟩ := cmp_pure h
                  cases q
                  exact ⟨k, rfl⟩
theorem chn_read {K : PySem.W.Frag} {o o2 : C2} {bb : List MO} {s : HS bb} {rr : RA} {H : Hp} {σ : Sl} {en : Env} {u : Out bb D} {Q : VK} (R : Rel C.w K rr s.M H) (E : EnvR C K rr H en σ) (ev : evE P cur (.chn o o2 a b c) en s = some u) (post : PostG (RD K) K C W σ rr H u Q) :
    tChain (rC C.tb C.w K o) (rC C.tb C.w K o2) (tE K C P cur W a) (tE K C P cur W b) (tE K C P cur W c) σ H Q := by
  simp only [evE] at ev
  refine tN.seq R E ev post fun x s1 r1 H1 v fx1 ev1 R1 E1 q1 post1 => ?_
  refine tN.seq (ev := fun e s => evE P cur b e s) (RP := RD K) R1 E1 ev1 post1 fun y s2 r2 H2 w fx2 ev2 R2 E2 q2 post2 => ?_
  cases h3 : cmp o x y s2 with
  | none => rw [h3] at ev2; cases ev2
  | some o4 =>
    rw [h3] at ev2
    obtain ⟨k, rfl⟩ := cmp_pure h3
    refine ⟨bb, s2, s2, r2, x, y, _, R2, Rep.mono fx2.pre fx2.ext _ _ q1, q2, h3, fun r3 H3 z fx3 R3 q3 => ⟨k, q3, ?_⟩⟩
    cases k with
    | false =>
      cases ev2
      exact iteF ((post2.mono fx3).self R3 rfl)
    | true =>
      refine iteT (tN.seq (ev := fun e s => evE P cur c e s) (RP := RD K) R3 (E2.mono fx3) ev2 (post2.mono fx3) fun z' s4 r4 H4 w' fx4 ev4 R4 E4 q4 post4 => ?_)
      obtain ⟨k, rfl⟩ := cmp_pure ev4
      exact ⟨bb, s4, s4, r4, y, z', _, R4, Rep.mono (fx3.trans fx4).pre (fx3.trans fx4).ext _ _ q2, q4, ev4, post4⟩
theorem lastM {o o2 : C2} (hi : o2.isIn = false) (x y : Expr) : lastMarks [o.op, o2.op] [x, y] = false := by
  show behindInMarks o2.op y = false
  exact nomark _ (by cases o2 <;> first | decide | cases hi) (by cases o2 <;> first | decide | cases hi)
theorem st_chn (hw : C.w = X.w) (hu : X.A.units + 128 < cLine) {o o2 : C2} (hi : o2.isIn = false) (ha : PE X l (tE X.K C P cur W a)) (hb : PE X m (tE X.K C P cur W b)) (hc : PE X r (tE X.K C P cur W c)) : PE X (.Compare l [o.op, o2.op] [m, r] pos) (tE X.K C P cur W (.chn o o2 a b c)) :=
  PE.imp (pe_chain (op_cmp hw hu o) (op_cmp hw hu o2) ha hb hc (lastM hi m r)) fun σ H Q ⟨bb, s, rr, en, u, R, E, ev, post⟩ => chn_read R E ev post
theorem tt_chn (hw : C.w = X.w) (hu : X.A.units + 128 < cLine) {o o2 : C2} (hi : o2.isIn = false) (ha : PE X l (tE X.K C P cur W a)) (hb : PE X m (tE X.K C P cur W b)) (hc : PE X r (tE X.K C P cur W c)) : PT X (.Compare l [o.op, o2.op] [m, r] pos) (tT X.K C P cur W (.chn o o2 a b c)) :=
  PT.imp (pt_chain (op_cmp hw hu o) (op_cmp hw hu o2) ha hb hc (lastM hi m r)) fun σ H Q ⟨bb, s, rr, en, u, R, E, ev, post⟩ => by
    obtain ⟨o', e', p'⟩ := tst_post ev post fun d s h => chn_bl h
    exact chn_read R E e' p'
def tAn (K : PySem.W.Frag) (C : Cn) (P : Ev) (cur : Cur) (W : WX) (cs : List CE) : TE := tN (RD K) K C W (fun e s => evAnd P cur cs e s)
def tAnT (K : PySem.W.Frag) (C : Cn) (P : Ev) (cur : Cur) (W : WX) (cs : List CE) : TT := tN RBl K C W (fun e s => tst (evAnd P cur cs e s))
def tOn (K : PySem.W.Frag) (C : Cn) (P : Ev) (cur : Cur) (W : WX) (cs : List CE) : TE := tN (RD K) K C W (fun e s => evOr P cur cs e s)
def tOnT (K : PySem.W.Frag) (C : Cn) (P : Ev) (cur : Cur) (W : WX) (cs : List CE) : TT := tN RBl K C W (fun e s => tst (evOr P cur cs e s))
theorem an_one (ha : PE X e (tE X.K C P cur W a)) : PE X (.BoolOp .And [e] pos) (tAn X.K C P cur W [a]) := PE.imp (pe_one ha) fun σ H Q ⟨bb, s, rr, en, u, R, E, ev, post⟩ => by
  simp only [evAnd] at ev
  refine tN.seq R E ev post fun x s1 r1 H1 v fx1 ev1 R1 E1 q1 post1 => ?_
  cases ev1
  exact post1.self R1 q1
theorem on_one (ha : PE X e (tE X.K C P cur W a)) : PE X (.BoolOp .Or [e] pos) (tOn X.K C P cur W [a]) := PE.imp (pe_one ha) fun σ H Q ⟨bb, s, rr, en, u, R, E, ev, post⟩ => by
  simp only [evOr] at ev
  refine tN.seq R E ev post fun x s1 r1 H1 v fx1 ev1 R1 E1 q1 post1 => ?_
  cases ev1
  exact post1.self R1 q1
theorem an_cons {e2 : Expr} (ha : PE X e (tE X.K C P cur W a)) (hb : PE X (.BoolOp .And (e2 :: es) pos) (tAn X.K C P cur W (b :: as))) : PE X (.BoolOp .And (e :: e2 :: es) pos) (tAn X.K C P cur W (a :: b :: as)) :=
  PE.imp (pe_andT ha hb) fun σ H Q ⟨bb, s, rr, en, u, R, E, ev, post⟩ => by
    rw [show (fun {b_1 : List MO} e (s : HS b_1) => evAnd P cur (a :: b :: as) e s) en s = bnd (evE P cur a en s) fun x s1 => (match truth s1.M x with | some true => evAnd P cur (b :: as) en s1 | some false => ret x s1 | none => none) from rfl] at ev
    refine tN.seq R E ev post fun x s1 r1 H1 v fx1 ev1 R1 E1 q1 post1 => ?_
    split at ev1
    · rename_i ek
      exact ⟨true, truth_ok R1 q1 ek, iteT ⟨bb, s1, r1, en, u, R1, E1, ev1, post1⟩⟩
    · rename_i ek
      cases ev1
      exact ⟨false, truth_ok R1 q1 ek, iteF (post1.self R1 q1)⟩
    · cases ev1
theorem on_cons {e2 : Expr} (ha : PE X e (tE X.K C P cur W a)) (hb : PE X (.BoolOp .Or (e2 :: es) pos) (tOn X.K C P cur W (b :: as))) : PE X (.BoolOp .Or (e :: e2 :: es) pos) (tOn X.K C P cur W (a :: b :: as)) :=
  PE.imp (pe_orT ha hb) fun σ H Q ⟨bb, s, rr, en, u, R, E, ev, post⟩ => by
    rw [show (fun {b_1 : List MO} e (s : HS b_1) => evOr P cur (a :: b :: as) e s) en s = bnd (evE P cur a en s) fun x s1 => (match truth s1.M x with | some true => ret x s1 | some false => evOr P cur (b :: as) en s1 | none => none) from rfl] at ev
    refine tN.seq R E ev post fun x s1 r1 H1 v fx1 ev1 R1 E1 q1 post1 => ?_
    split at ev1
    · rename_i ek
      cases ev1
      exact ⟨true, truth_ok R1 q1 ek, iteT (post1.self R1 q1)⟩
    · rename_i ek
      exact ⟨false, truth_ok R1 q1 ek, iteF ⟨bb, s1, r1, en, u, R1, E1, ev1, post1⟩⟩
    · cases ev1
theorem bnd_ret {bb : List MO} {x : R bb D} : bnd x (fun d s => ret d s) = x := by
  cases x with
  | none => rfl
  | some o => cases o <;> rfl
theorem anT_one (ha : PT X e (tT X.K C P cur W a)) : PW X (.BoolOp .And [e] pos) (tAnT X.K C P cur W [a]) := PW.imp (pw_and1 ha) fun σ H Q ⟨bb, s, rr, en, u, R, E, ev, post⟩ => by
  refine ⟨bb, s, rr, en, u, R, E, ?_, post⟩
  rw [← ev]
  show tst (evE P cur a en s) = tst (bnd (evE P cur a en s) fun x s1 => ret x s1)
  rw [bnd_ret]
theorem onT_one (ha : PT X e (tT X.K C P cur W a)) : PW X (.BoolOp .Or [e] pos) (tOnT X.K C P cur W [a]) := PW.imp (pw_or1 ha) fun σ H Q ⟨bb, s, rr, en, u, R, E, ev, post⟩ => by
  refine ⟨bb, s, rr, en, u, R, E, ?_, post⟩
  rw [← ev]
  show tst (evE P cur a en s) = tst (bnd (evE P cur a en s) fun x s1 => ret x s1)
  rw [bnd_ret]
theorem anT_cons {e2 : Expr} (ha : PT X e (tT X.K C P cur W a)) (hb : PW X (.BoolOp .And (e2 :: es) pos) (tAnT X.K C P cur W (b :: as))) : PW X (.BoolOp .And (e :: e2 :: es) pos) (tAnT X.K C P cur W (a :: b :: as)) :=
  PW.imp (pw_and ha hb) fun σ H Q ⟨bb, s, rr, en, u, R, E, ev, post⟩ => by
    refine tN.seq (F := fun k s1 => if k then tst (evAnd P cur (b :: as) en s1) else ret false s1) R E (by
      rw [← ev]
      show _ = tst (bnd (evE P cur a en s) fun x s1 => (match truth s1.M x with | some true => evAnd P cur (b :: as) en s1 | some false => ret x s1 | none => none))
      simp only [tst]
      cases evE P cur a en s with
      | none => rfl
      | some o1 =>
        cases o1 with
        | ex c fs s1 => rfl
        | ok d s1 =>
          simp only [bnd]
          cases ht : truth s1.M d with
          | none => rfl
          | some k =>
            cases k with
            | true => rfl
            | false => simp only [ret, ht]; rfl) post fun k s1 r1 H1 v fx1 ev1 R1 E1 q1 post1 => ?_
    subst q1
    cases v with
    | true => exact iteT ⟨bb, s1, r1, en, u, R1, E1, ev1, post1⟩
    | false =>
      cases ev1
      exact iteF (post1.self R1 rfl)
theorem onT_cons {e2 : Expr} (ha : PT X e (tT X.K C P cur W a)) (hb : PW X (.BoolOp .Or (e2 :: es) pos) (tOnT X.K C P cur W (b :: as))) : PW X (.BoolOp .Or (e :: e2 :: es) pos) (tOnT X.K C P cur W (a :: b :: as)) :=
  PW.imp (pw_or ha hb) fun σ H Q ⟨bb, s, rr, en, u, R, E, ev, post⟩ => by
    refine tN.seq (F := fun k s1 => if k then ret true s1 else tst (evOr P cur (b :: as) en s1)) R E (by
      rw [← ev]
      show _ = tst (bnd (evE P cur a en s) fun x s1 => (match truth s1.M x with | some true => ret x s1 | some false => evOr P cur (b :: as) en s1 | none => none))
      simp only [tst]
      cases evE P cur a en s with
      | none => rfl
      | some o1 =>
        cases o1 with
        | ex c fs s1 => rfl
        | ok d s1 =>
          simp only [bnd]
          cases ht : truth s1.M d with
          | none => rfl
          | some k =>
            cases k with
            | false => rfl
            | true => simp only [ret, ht]; rfl) post fun k s1 r1 H1 v fx1 ev1 R1 E1 q1 post1 => ?_
    subst q1
    cases v with
    | false => exact iteF ⟨bb, s1, r1, en, u, R1, E1, ev1, post1⟩
    | true =>
      cases ev1
      exact iteT (post1.self R1 rfl)
end
end PV
set_option Elab.async false
set_option linter.all false
set_option autoImplicit false
set_option maxRecDepth 100000
set_option maxHeartbeats 1000000
namespace PV
open PySem PySem.Spec PyProof.Rows L2
section
variable {P : Ev} {C : Cn} {cur : Cur} {W : WX} {X : Cx} {a b c : CE} {as kes : List CE} {l m r e : Expr} {es args : List Expr} {pos apos : Pos} {k : Nat} {f x : Str} {ks : List Str} {kws : List Keyword}
theorem st_bad : PE X e (tE X.K C P cur W .bad) := ⟨fun pins s0 σ H Q I ⟨bb, s, rr, en, u, R, E, ev, post⟩ => by cases ev⟩
theorem st_fld (cl : ClAt P C k X) (ha : PE X l (tE X.K C P cur W a)) (hb : baseB l = true) : PE X (.Attribute l f pos) (tE X.K C P cur W (.fld a f)) :=
  PE.imp (pe_fld ha (base_ok hb)) fun σ H Q ⟨bb, s, rr, en, u, R, E, ev, post⟩ => by
    simp only [evE] at ev
    refine tN.seq R E ev post fun x s1 r1 H1 v fx1 ev1 R1 E1 q1 post1 => ?_
    split at ev1
    · rename_i p
      split at ev1
      · rename_i c fs hm
        split at ev1
        · rename_i hf
          split at ev1
          · rename_i d hl
            cases ev1
            obtain ⟨ad, w, ha, rfl⟩ := q1
            obtain ⟨dx, fv, e1, t⟩ := R1.ob hm ha
            obtain ⟨cls, na⟩ := cl.fd c f hf
            obtain ⟨vv, l1, l2⟩ := t.look hl
            exact ⟨ad, _, dx, fv, vv, rfl, e1, cls, na, l1, post1.self R1 l2⟩
          · cases ev1
        · cases ev1
      · cases ev1
    · cases ev1
theorem call_isAny {ω : World} (hw : ω = X.w) : CallR X (.builtin "isinstance") (fun vs H Q => rIsi X.K vs H Q ∨ ∃ (a : Addr) (ep : Nat) (xs : List DE) (c : V) (u : Value) (b : Bool), vs = [.ref a, c] ∧ H a = some (DctO ω a ep xs) ∧ ClsV c u ∧ PySem.W.kitOne X.K (.type "dict") u = some b ∧ Q (.bl b) H) := fun pins s σ H vs us Q I rs h =>
  h.elim (fun z => call_isi pins s σ H vs us Q I rs z) fun z => call_isiX hw pins s σ H vs us Q I rs z
theorem st_isC (cl : ClAt P C k X) {p p2 : Pos} (hw : C.w = X.w) (hg : Gl X "isinstance") (hm : X.mg "isinstance" = none) (hg2 : Gl X x) (hd2 : (x == ("__debug__" : Str)) = false) (ha : PE X e (tE X.K C P cur W a)) (he : starEach [e, .Name x p2] X.env = (false, eval e X.env) :: starEach [.Name x p2] X.env) :
    PE X (.Call (.Name "isinstance" p) [e, .Name x p2] [] pos) (tE X.K C P cur W (.isC a x)) := by
  cases hi : P.isc x with
  | false =>
    exact ⟨fun pins s0 σ H Q I ⟨bb, s, rr, en, u, R, E, ev, post⟩ => by
      simp only [evE, hi] at ev
      cases ev⟩
  | true =>
    obtain ⟨hmx, ik, kb, ko⟩ := cl.ic x hi
    have hb : PE X (.Name x p2) (tC (.ref (He.ga X.K x))) := pe_glob hg2 hmx rfl hd2
    refine PE.imp (pe_callB (call_isAny hw) hg hm (by decide +kernel) (pa_cons ha (pa_cons hb pa_nil) he) (by decide) (by decide) he rfl) fun σ H Q ⟨bb, s, rr, en, u, R, E, ev, post⟩ => ?_
    simp only [evE, hi, if_true] at ev
    refine tN.seq R E ev post fun z s1 r1 H1 v fx1 ev1 R1 E1 q1 post1 => ?_
    split at ev1
    · rename_i k ek
      cases ev1
      have fin : ∀ (t : Value) (b : Bool), TyX X.K H1 v t → PySem.W.kitOne X.K t (.ref (He.ga X.K x)) = some b → b = k → rIsi X.K [v, .ref (He.ga X.K x)] H1 Q := fun t b h1 h2 h3 => ⟨v, .ref _, t, .ref _, k, rfl, .own _, h1, by rw [h2, h3], post1.self R1 rfl⟩
      have kf : ∀ t, t ∈ ["NoneType", "bool", "int", "str", "tuple", "list", "dict"] → PySem.W.kitOne X.K (.type t) (.ref (He.ga X.K x)) = some false := kb
      cases z with
      | non =>
        cases q1
        cases ek
        exact .inl (fin _ _ (.base .non) (kf _ (by simp)) rfl)
      | bl y =>
        cases q1
        cases ek
        exact .inl (fin _ _ (.base (.bl y)) (kf _ (by simp)) rfl)
      | int y =>
        cases q1
        cases ek
        exact .inl (fin _ _ (.base (.int y)) (kf _ (by simp)) rfl)
      | str y =>
        cases q1
        cases ek
        exact .inl (fin _ _ (.base (.str y)) (kf _ (by simp)) rfl)
      | fn y => cases ek
      | tup ys =>
        cases ek
        obtain ⟨ad, vs, rfl, q, t⟩ := q1
        refine .inl (fin (.type "tuple") _ ?_ (kf _ (by simp)) rfl)
        rcases q with (q | ⟨o, q⟩) | ⟨o, its, n, k1, k2, _⟩
        · exact .base (.tup q)
        · exact .fTuple q
        · exact .kTuple k1 k2
      | ref i =>
        obtain ⟨ad, wa, ha', rfl⟩ := q1
        simp only [isCD] at ek
        split at ek
        · rename_i c' fs hmm
          split at ek
          · rename_i hi'
            cases ek
            obtain ⟨dx, fv, e1, _⟩ := R1.ob hmm ha'
            obtain ⟨_, ik', _, _⟩ := cl.ic c' hi'
            exact .inl (fin _ _ (.base (.ins e1 ik'.cl ik'.ha ik'.hn ik'.htk ik'.hm)) (ko c' hi') rfl)
          · cases ek
        · rename_i w ys hmm
          cases ek
          refine .inl (fin (.type "list") _ ?_ (kf _ (by simp)) rfl)
          have ro := R1.ob hmm ha'
          cases w with
          | true => obtain ⟨vs, e1, _⟩ := ro; exact .base (.lst e1)
          | false =>
            obtain ⟨vs, e1, _⟩ := ro
            rcases e1 with ⟨o, q⟩ | ⟨o, its, n, k1, k2, _⟩
            · exact .base (.frz q)
            · exact .kList k1 k2
        · rename_i ep kvs hmm
          cases ek
          obtain ⟨xs, e1, _⟩ := R1.ob hmm ha'
          exact .inr ⟨ad, ep, xs, .ref _, .ref _, false, rfl, e1, .own _, kf _ (by simp), post1.self R1 rfl⟩
        · cases ek
    · cases ev1
theorem st_mc (cl : ClAt P C k X) (hr : Room k X.A) (hgd : X.A.guards = some []) (tk : Takes X W) (ho : PE X l (tE X.K C P cur W a)) (ha : PA X args (tL X.K C P cur W as)) (hkw : PK X kws (tL X.K C P cur W kes)) (hks : kws.map (·.arg) = ks.map some) (hb : baseB l = true) (hl : (apos.endLine == pos.line) = true) (hlen : args.length + kws.length < 29)
    (hns : (backTo pos (starEach args X.env)).all (fun x => !x.1) = true) (he : ∀ e es', args = e :: es' → starEach (e :: es') X.env = (false, eval e X.env) :: starEach es' X.env) (hpl : ∀ e es', args = e :: es' → (backTo pos (starEach (e :: es') X.env)).any (·.1) = false) (hnil : args = [] → as = []) :
    PE X (.Call (.Attribute l f apos) args kws pos) (tE X.K C P cur W (.mc a f as ks kes)) := by
  obtain ⟨n1, n2, n3⟩ := kw_names (env := X.env) (pos := pos) hks
  have form : methodCallForm (args.length + kws.length) (backTo pos (starEach args X.env)) (backToKw pos (keywordEach kws X.env)) = true := by
    unfold methodCallForm
    rw [hns, n1, Bool.true_and, Bool.true_and]
    refine decide_eq_true ?_
    split <;> omega
  have key : ∀ {σ : Sl} {H1 : Hp} {Q : VK} {bb : List MO} {s1 : HS bb} {r1 : RA} {en : Env} {u : Out bb D} {x : D} {v : V}, Rel C.w X.K r1 s1.M H1 → EnvR C X.K r1 H1 en σ → Rep X.K r1 H1 x v → PostG (RD X.K) X.K C W σ r1 H1 u Q →
      (match x with
    | .ref p => (match s1.M[p]? with
      | some (.ins c fs) => (match fs.lookup f, P.mth c f with
        | none, some g => (match P.ar g with
          | some r => bnd (evL P cur as en s1) fun xs s2 => bnd (evL P cur kes en s2) fun ys s3 => (match arr r (.ref p :: xs) ks ys with
            | some zs => P.cf g zs s3
            | none => none)
          | none => none)
        | _, _ => none)
      | _ => none)
    | _ => none) = some u → ∃ (q Cd dx : Addr) (fs : List (Str × V)) (ar : ArI) (sp : Sp), v = .ref q ∧ H1 q = some (.ins Cd dx fs) ∧ fs.lookup f = none ∧ MthK X Cd f ar sp ∧
        tL X.K C P cur W as σ H1 fun vs H2 => tL X.K C P cur W kes σ H2 fun ws H3 => ∃ (r : RA) (xs ys zs : List D), RepL X.K r H3 xs (v :: vs) ∧ RepL X.K r H3 ys ws ∧ arr ar xs ks ys = some zs ∧ ∀ zv, RepL X.K r H3 zs zv → sp zv H3 Q fun c d H' => W c d σ H' := by
    intro σ H1 Q bb s1 r1 en u x v R1 E1 q1 post1 ev1
    split at ev1
    · rename_i p
      split at ev1
      · rename_i c fs hm
        split at ev1
        · rename_i g hlk hmt
          split at ev1
          · rename_i ar har
            obtain ⟨ad, w, ha', rfl⟩ := q1
            obtain ⟨dx, fv, e1, t⟩ := R1.ob hm ha'
            obtain ⟨cls, j, fa, fd, ps, hj, M, hka, F⟩ := cl.mt c f g ar hmt har
            refine ⟨ad, _, dx, fv, ar, spOf X.K C P.cf g, rfl, e1, t.none hlk, ⟨cls, j, fa, fd, ps, M, hka, hr.mono (by omega), F⟩, ?_⟩
            refine tN.seq (ev := fun e s => evL P cur as e s) (RP := RDL X.K) R1 E1 ev1 post1 fun xs s2 r2 H2 vs fx2 ev2 R2 E2 q2 post2 => ?_
            refine tN.seq (ev := fun e s => evL P cur kes e s) (RP := RDL X.K) R2 E2 ev2 post2 fun ys s3 r3 H3 ws fx3 ev3 R3 E3 q3 post3 => ?_
            split at ev3
            · rename_i zs hz
              have rp : Rep X.K r3 H3 (.ref p) (.ref ad) := Rep.mono (fx2.trans fx3).pre (fx2.trans fx3).ext _ _ (show Rep X.K r1 H1 (.ref p) (.ref ad) from ⟨ad, w, ha', rfl⟩)
              refine ⟨r3, .ref p :: xs, ys, zs, ⟨_, _, rfl, rp, RepL.mono fx3.pre fx3.ext _ _ q2⟩, q3, hz, fun zv hzv => ⟨bb, s3, r3, zs, u, R3, E3.2.2.2, hzv, ev3, ?_⟩⟩
              cases u with
              | ok d s4 => exact post3
              | ex c fs s4 => exact post3
            · cases ev3
          · cases ev1
        · cases ev1
      · cases ev1
    · cases ev1
  cases args with
  | nil =>
    have e := hnil rfl
    subst e
    refine PE.imp (pe_mth0 hgd tk ho hkw n1 n2 (base_ok hb) form hl (by rw [n3]; rfl)) fun σ H Q ⟨bb, s, rr, en, u, R, E, ev, post⟩ => ?_
    simp only [evE] at ev
    refine tN.seq R E ev post fun x s1 r1 H1 v fx1 ev1 R1 E1 q1 post1 => ?_
    obtain ⟨q, Cd, dx, fs, ar, sp, h1, h2, h3, h4, h5⟩ := key R1 E1 q1 post1 ev1
    refine ⟨q, Cd, dx, fs, ar, sp, h1, h2, h3, h4, ?_⟩
    obtain ⟨b2, s2, r2, e2, o2, k1, k2, k3, k4⟩ := h5
    cases k3
    exact k4.self k1 rfl
  | cons e0 es0 =>
    refine PE.imp (pe_mth hgd tk ho ha hkw n1 n2 (base_ok hb) form hl (he e0 es0 rfl) (by rw [n3, hpl e0 es0 rfl]; rfl)) fun σ H Q ⟨bb, s, rr, en, u, R, E, ev, post⟩ => ?_
    simp only [evE] at ev
    refine tN.seq R E ev post fun x s1 r1 H1 v fx1 ev1 R1 E1 q1 post1 => ?_
    exact key R1 E1 q1 post1 ev1
theorem st_new (cl : ClAt P C k X) (hr : Room k X.A) (hgd : X.A.guards = some []) (tk : Takes X W) (hg : Gl X x) (hdb : (x == ("__debug__" : Str)) = false) {p : Pos} (ha : PA X args (tL X.K C P cur W as)) (hkw : PK X kws (tL X.K C P cur W kes)) (hks : kws.map (·.arg) = ks.map some)
    (he : ∀ e es', args = e :: es' → starEach (e :: es') X.env = (false, eval e X.env) :: starEach es' X.env) (hpl : ∀ e es', args = e :: es' → (backTo pos (starEach (e :: es') X.env)).any (·.1) = false) (hnil : args = [] → as = []) :
    PE X (.Call (.Name x p) args kws pos) (tE X.K C P cur W (.new x as ks kes)) := by
  obtain ⟨n1, n2, n3⟩ := kw_names (env := X.env) (pos := pos) hks
  cases hi : P.ini x with
  | none => exact ⟨fun pins s0 σ H Q I ⟨bb, s, rr, en, u, R, E, ev, post⟩ => by
      simp only [evE, hi] at ev
      cases ev⟩
  | some g =>
    cases har : P.ar g with
    | none => exact ⟨fun pins s0 σ H Q I ⟨bb, s, rr, en, u, R, E, ev, post⟩ => by
        simp only [evE, hi, har] at ev
        cases ev⟩
    | some ar =>
      obtain ⟨hm, j, fa, fd, ps, hj, M, hka, F⟩ := cl.nw x g ar hi har
      have key : ∀ {σ : Sl} {H1 : Hp} {Q : VK} {bb : List MO} {s1 : HS bb} {r1 : RA} {en : Env} {u : Out bb D} {xs : List D} {vs : List V}, Rel C.w X.K r1 s1.M H1 → EnvR C X.K r1 H1 en σ → RepL X.K r1 H1 xs vs → PostG (RD X.K) X.K C W σ r1 H1 u Q →
          (bnd (evL P cur kes en s1) fun ys s2 => (match arr ar (.ref s2.M.length :: xs) ks ys with
            | some zs => bnd (P.cf g zs (s2.alloc (.ins x []))) fun d s3 => (match d with
              | .non => ret (.ref s2.M.length) s3
              | _ => none)
            | none => none)) = some u → tL X.K C P cur W kes σ H1 fun ws H2 => ∀ y dy, H2 y = none → H2 dy = none → dy ≠ y → ∃ (r : RA) (xs ys zs : List D), RepL X.K r (upd (upd H2 dy (.own y)) y (.ins (He.ga X.K x) dy [])) xs (.ref y :: vs) ∧
              RepL X.K r (upd (upd H2 dy (.own y)) y (.ins (He.ga X.K x) dy [])) ys ws ∧ arr ar xs ks ys = some zs ∧ ∀ zv, RepL X.K r (upd (upd H2 dy (.own y)) y (.ins (He.ga X.K x) dy [])) zs zv → spOf X.K C P.cf g zv (upd (upd H2 dy (.own y)) y (.ins (He.ga X.K x) dy [])) (fun v H3 => v = .non ∧ Q (.ref y) H3) fun c d H' => W c d σ H' := by
        intro σ H1 Q bb s1 r1 en u xs vs R1 E1 q1 post1 ev1
        refine tN.seq (ev := fun e s => evL P cur kes e s) (RP := RDL X.K) R1 E1 ev1 post1 fun ys s2 r2 H2 ws fx2 ev2 R2 E2 q2 post2 => ?_
        intro y dy hy hdy hne
        split at ev2
        · rename_i zs hz
          have fxa : Fx C.tb r2 H2 r2 (upd H2 dy (.own y)) := Fx.new hdy
          have hy' : (upd H2 dy (.own y)) y = none := by rw [upd_ne (Ne.symm hne)]; exact hy
          have fxb : Fx C.tb r2 (upd H2 dy (.own y)) (r2 ++ [(y, true)]) (upd (upd H2 dy (.own y)) y (.ins (He.ga X.K x) dy [])) := Fx.alloc hy'
          have fx : Fx C.tb r2 H2 (r2 ++ [(y, true)]) (upd (upd H2 dy (.own y)) y (.ins (He.ga X.K x) dy [])) := fxa.trans fxb
          have R3 : Rel C.w X.K (r2 ++ [(y, true)]) (s2.alloc (.ins x [])).M (upd (upd H2 dy (.own y)) y (.ins (He.ga X.K x) dy [])) := (R2.new hdy).alloc hy' rfl ⟨dy, [], upd_same, rfl⟩
          have ry : Rep X.K (r2 ++ [(y, true)]) (upd (upd H2 dy (.own y)) y (.ins (He.ga X.K x) dy [])) (.ref s2.M.length) (.ref y) := ⟨y, true, by rw [← R2.len]; simp, rfl⟩
          refine ⟨r2 ++ [(y, true)], .ref s2.M.length :: xs, ys, zs, ⟨_, _, rfl, ry, RepL.mono (fx2.trans fx).pre (fx2.trans fx).ext _ _ q1⟩, RepL.mono fx.pre fx.ext _ _ q2, hz, fun zv hzv => ?_⟩
          cases ho : P.cf g zs (s2.alloc (.ins x [])) with
          | none => rw [ho] at ev2; cases ev2
          | some o =>
            rw [ho] at ev2
            refine ⟨bb, _, _, zs, o, R3, fx.tab E2.2.2.2, hzv, ho, ?_⟩
            cases o with
            | ok d s3 =>
              cases d with
              | non =>
                cases ev2
                exact fun r' H' v fx' R' rp => ⟨rp, post2 r' H' (.ref y) (fx.trans fx') R' (Rep.mono fx'.pre fx'.ext _ _ ry)⟩
              | _ => cases ev2
            | ex c fs s3 =>
              cases ev2
              exact fun r' H' dd fx' R' xd => post2 r' H' dd (fx.trans fx') R' xd
        · cases ev2
      cases args with
      | nil =>
        have e := hnil rfl
        subst e
        refine PE.imp (pe_new0 M F (hr.mono (by omega)) hgd hg hm hka tk hkw n1 n2 hdb (by rw [n3]; rfl)) fun σ H Q ⟨bb, s, rr, en, u, R, E, ev, post⟩ => ?_
        simp only [evE, evL, hi, har] at ev
        exact key (xs := []) (vs := []) R E rfl post ev
      | cons e0 es0 =>
        refine PE.imp (pe_new M F (hr.mono (by omega)) hgd hg hm hka tk ha hkw n1 n2 hdb (he e0 es0 rfl) (by rw [n3, hpl e0 es0 rfl]; rfl)) fun σ H Q ⟨bb, s, rr, en, u, R, E, ev, post⟩ => ?_
        simp only [evE, hi, har] at ev
        refine tN.seq R E ev post fun xs s1 r1 H1 vs fx1 ev1 R1 E1 q1 post1 => ?_
        exact key R1 E1 q1 post1 ev1
end
end PV
set_option Elab.async false
set_option linter.all false
set_option autoImplicit false
set_option maxRecDepth 100000
set_option maxHeartbeats 1000000
namespace PV
open PySem PySem.Spec PyProof.Rows L2
def setV : List Nat → List V → Sl → Sl
  | i :: is, v :: vs, σ => setV is vs (σ.set i (some v))
  | _, _, σ => σ
def gTg (K : PySem.W.Frag) : Tg → TG
  | .nm i => gName i
  | .tp is => fun v σ H Q => ∃ a xs, v = .ref a ∧ SqT K H a xs ∧ xs.length = is.length ∧ Q (setV is xs σ) H
theorem PG.imp {X : Cx} {e : Expr} {t t' : TG} (h : PG X e t) (i : ∀ v σ H Q, t' v σ H Q → t v σ H Q) : PG X e t' := ⟨fun pins s σ H v u Q I r q => h.run pins s σ H v u Q I r (i v σ H Q q)⟩
theorem PGs.imp {X : Cx} {e : List Expr} {t t' : TGs} (h : PGs X e t) (i : ∀ v σ H Q, t' v σ H Q → t v σ H Q) : PGs X e t' := ⟨fun pins s σ H v u Q I r q => h.run pins s σ H v u Q I r (i v σ H Q q)⟩
theorem loc_of {cel : Bool} {X : Cx} {x : Str} (hf : cel = true → ∀ y, X.fn y = true) (h : locB cel X.env.scope x = true) : Loc X.env.scope x ∧ (X.fn x = true ∨ X.env.scope.names.lookup x = some .local) := by
  unfold locB at h
  split at h
  · rename_i q
    exact ⟨.inl q, .inr q⟩
  · rename_i q
    exact ⟨.inr q, .inl (hf h x)⟩
  · cases h
theorem pgs_names {cel : Bool} {X : Cx} (hf : cel = true → ∀ y, X.fn y = true) (hN : X.N.Nodup) : ∀ {is : List Nat} {es : List Expr}, chkTg.go cel X.N X.env.scope is es = true →
    PGs X es (fun vs σ H Q => vs.length = is.length ∧ Q (setV is vs σ) H) ∧ (assignEach es X.env).length = is.length ∧ (assignEach es X.env).findIdx? (·.1) = none
  | [], [], _ => ⟨PGs.imp pgs_nil fun vs σ H Q ⟨e, q⟩ => ⟨List.eq_nil_of_length_eq_zero e, by cases vs <;> exact q⟩, rfl, rfl⟩
  | [], _ :: _, h => by cases h
  | i :: is, [], h => by cases h
  | i :: is, e :: es, h => by
    cases e <;> try (cases h; done)
    rename_i x p
    simp only [chkTg.go, Bool.and_eq_true, decide_eq_true_eq] at h
    obtain ⟨⟨h1, h2⟩, h3⟩ := h
    obtain ⟨l1, l2⟩ := loc_of hf h2
    obtain ⟨g, gl, gf⟩ := pgs_names hf hN h3
    refine ⟨PGs.imp (pgs_cons (pg_name hN h1 l1 l2) g rfl) fun vs σ H Q ⟨e, q⟩ => ?_, ?_, ?_⟩
    · cases vs with
      | nil => cases e
      | cons v vr => exact ⟨v, vr, rfl, by simpa using e, q⟩
    · show (assignEach es X.env).length + 1 = is.length + 1
      rw [gl]
    · show ((false, assign (.Name x p) X.env) :: assignEach es X.env).findIdx? (·.1) = none
      rw [List.findIdx?_cons]
      rw [gf]
      rfl
theorem pg_tg {cel : Bool} {X : Cx} {tg : Tg} {e : Expr} (hf : cel = true → ∀ y, X.fn y = true) (hc : X.calm = true) (hN : X.N.Nodup) (h : chkTg cel X.N X.env.scope tg e = true) : PG X e (gTg X.K tg) := by
  cases tg with
  | nm i =>
    cases e <;> try (cases h; done)
    rename_i x p
    simp only [chkTg, Bool.and_eq_true, decide_eq_true_eq] at h
    obtain ⟨l1, l2⟩ := loc_of hf h.2
    exact pg_name hN h.1 l1 l2
  | tp is =>
    cases e <;> try (cases h; done)
    rename_i es k p
    obtain ⟨g, gl, gf⟩ := pgs_names hf hN (show chkTg.go cel X.N X.env.scope is es = true from h)
    exact PG.imp (pg_tup hc g gl gf) fun v σ H Q ⟨a, xs, e1, e2, e3, q⟩ => ⟨a, xs, e1, e2, e3, e3, q⟩
theorem setAll_ok {C : Cn} {K : PySem.W.Frag} {r : RA} {H : Hp} : ∀ {is : List Nat} {ds : List D} {vs : List V} {e e1 : Env} {σ : Sl}, setAll is ds e = some e1 → RepL K r H ds vs → EnvR C K r H e σ → EnvR C K r H e1 (setV is vs σ) ∧ vs.length = is.length
  | [], [], vs, e, e1, σ, h, t, E => by
    cases h
    rw [show vs = [] from t]
    exact ⟨E, rfl⟩
  | [], _ :: _, _, _, _, _, h, _, _ => by cases h
  | _ :: _, [], _, _, _, _, h, _, _ => by cases h
  | i :: is, d :: ds, vs, e, e1, σ, h, t, E => by
    obtain ⟨v, vr, rfl, h1, h2⟩ := t
    obtain ⟨k1, k2⟩ := setAll_ok (is := is) h h2 (E.set i h1)
    exact ⟨k1, by simp [k2]⟩
def Tg.put (tg : Tg) (v : V) (vs : List V) (σ : Sl) : Sl := match tg with
  | .nm i => σ.set i (some v)
  | .tp is => setV is vs σ
theorem bind_ok {C : Cn} {K : PySem.W.Frag} {r : RA} {H : Hp} {tg : Tg} {d : D} {v : V} {e e1 : Env} {σ : Sl} {Q : Sl → Hp → Prop} (h : tg.bind d e = some e1) (q : Rep K r H d v) (E : EnvR C K r H e σ) (k : ∀ vs, EnvR C K r H e1 (tg.put v vs σ) → Q (tg.put v vs σ) H) : gTg K tg v σ H Q := by
  cases tg with
  | nm i =>
    cases h
    exact k [] (E.set i q)
  | tp is =>
    simp only [Tg.bind] at h
    split at h
    · rename_i ds
      obtain ⟨a, vs, rfl, q1, t⟩ := q
      obtain ⟨k1, k2⟩ := setAll_ok h t E
      exact ⟨a, vs, rfl, q1, k2, k vs k1⟩
    · cases h
def gTgM (K : PySem.W.Frag) : Tg → TG
  | .nm i => gName i
  | .tp is => fun v σ H Q => ∃ a xs, v = .ref a ∧ (SqT K H a xs ∨ SqL K H a xs) ∧ xs.length = is.length ∧ Q (setV is xs σ) H
theorem pg_tgM {cel : Bool} {X : Cx} {tg : Tg} {e : Expr} (hf : cel = true → ∀ y, X.fn y = true) (hc : X.calm = true) (hN : X.N.Nodup) (h : chkTg cel X.N X.env.scope tg e = true) : PG X e (gTgM X.K tg) := by
  cases tg with
  | nm i => exact pg_tg hf hc hN h
  | tp is =>
    cases e <;> try (cases h; done)
    rename_i es k p
    obtain ⟨g, gl, gf⟩ := pgs_names hf hN (show chkTg.go cel X.N X.env.scope is es = true from h)
    refine ⟨fun pins s σ H v u Q I r hw => ?_⟩
    obtain ⟨a, xs, e1, e2 | e2, e3, q⟩ := hw
    · exact (pg_tup hc g gl gf).run pins s σ H v u Q I r ⟨a, xs, e1, e2, e3, e3, q⟩
    · exact (pg_unl hc g gl gf).run pins s σ H v u Q I r ⟨a, xs, e1, e2, e3, e3, q⟩
theorem bindM_ok {C : Cn} {K : PySem.W.Frag} {r : RA} {M : List MO} {H : Hp} {tg : Tg} {d : D} {v : V} {e e1 : Env} {σ : Sl} {Q : Sl → Hp → Prop} (h : tg.bindM M d e = some e1) (R : Rel C.w K r M H) (q : Rep K r H d v) (E : EnvR C K r H e σ) (k : ∀ vs, EnvR C K r H e1 (tg.put v vs σ) → Q (tg.put v vs σ) H) : gTgM K tg v σ H Q := by
  cases tg with
  | nm i =>
    cases h
    exact k [] (E.set i q)
  | tp is =>
    simp only [Tg.bindM] at h
    split at h
    · rename_i ds
      obtain ⟨a, vs, rfl, q1, t⟩ := q
      obtain ⟨k1, k2⟩ := setAll_ok h t E
      exact ⟨a, vs, rfl, .inl q1, k2, k vs k1⟩
    · rename_i p
      split at h
      · rename_i w ds hm
        obtain ⟨a, w, ha, rfl⟩ := q
        obtain ⟨vs, hq, t⟩ := (R.ob hm ha).sq
        obtain ⟨k1, k2⟩ := setAll_ok h t E
        exact ⟨a, vs, rfl, .inr hq, k2, k vs k1⟩
      · cases h
    · cases h
theorem wipe_at (σ : Sl) : ∀ (vs : List Nat) (j : Nat), (wipe σ vs)[j]? = if j ∈ vs then (σ[j]?).map fun _ => none else σ[j]?
  | [], j => by simp [wipe]
  | v :: vs, j => by
    unfold wipe
    by_cases hj : j = v
    · subst hj
      rw [List.getElem?_set]
      have hl := wipe_length σ vs
      by_cases h : j < σ.length
      · simp [hl, h]
      · have e : σ[j]? = none := List.getElem?_eq_none (by omega)
        simp [hl, h, e]
    · rw [List.getElem?_set_ne (Ne.symm hj), wipe_at σ vs j]
      simp [hj]
theorem wipe_set {σ : Sl} {i : Nat} {x : Option V} {vs : List Nat} (h : i ∈ vs) : wipe (σ.set i x) vs = wipe σ vs := by
  apply List.ext_getElem?
  intro j
  rw [wipe_at, wipe_at]
  by_cases hj : j ∈ vs
  · rw [if_pos hj, if_pos hj, List.getElem?_set]
    by_cases hi : i = j
    · subst hi
      by_cases hl : i < σ.length
      · simp [hl]
      · have e : σ[i]? = none := List.getElem?_eq_none (by omega)
        simp [hl, e]
    · simp [hi]
  · rw [if_neg hj, if_neg hj, List.getElem?_set_ne (show i ≠ j from fun z => hj (by rw [← z]; exact h))]
theorem wipe_setV {vs : List Nat} : ∀ {is : List Nat} {xs : List V} {σ : Sl}, (∀ i ∈ is, i ∈ vs) → wipe (setV is xs σ) vs = wipe σ vs
  | [], _, _, _ => rfl
  | i :: is, [], _, _ => rfl
  | i :: is, x :: xs, σ, h => by
    show wipe (setV is xs (σ.set i (some x))) vs = _
    rw [wipe_setV fun j hj => h j (List.mem_cons_of_mem _ hj), wipe_set (h i List.mem_cons_self)]
theorem wipe_put {tg : Tg} {v : V} {xs : List V} {vs : List Nat} {σ : Sl} (h : ∀ i ∈ tg.slots, i ∈ vs) : wipe (tg.put v xs σ) vs = wipe σ vs := by
  cases tg with
  | nm i => exact wipe_set (h i (by simp [Tg.slots]))
  | tp is => exact wipe_setV h
theorem wipe_wipe {σ : Sl} {vs : List Nat} : wipe (wipe σ vs) vs = wipe σ vs := by
  apply List.ext_getElem?
  intro j
  rw [wipe_at, wipe_at]
  by_cases hj : j ∈ vs
  · rw [if_pos hj, if_pos hj]
    cases σ[j]? <;> rfl
  · rw [if_neg hj, if_neg hj]
abbrev W0 : WX := fun _ _ _ _ => False
def tIf (K : PySem.W.Frag) (C : Cn) (P : Ev) (cs : List CE) : TT := tN RBl K C W0 (fun e s => evIf P none cs e s)
theorem noX_some {α : Type} {b : List MO} {x : R b α} {o : Out b α} (h : noX x = some o) : ∃ a s, o = .ok a s ∧ x = some (.ok a s) := by
  cases x with
  | none => cases h
  | some u =>
    cases u with
    | ok a s =>
      cases h
      exact ⟨a, s, rfl, rfl⟩
    | ex c fs s => cases h
theorem bnd_some {α β : Type} {b : List MO} {x : R b α} {f : α → HS b → R b β} {c : β} {s' : HS b} (h : bnd x f = some (.ok c s')) : ∃ a s, x = some (.ok a s) ∧ f a s = some (.ok c s') := by
  cases x with
  | none => cases h
  | some u =>
    cases u with
    | ok a s => exact ⟨a, s, rfl, h⟩
    | ex _ _ _ => cases h
section
variable {P : Ev} {C : Cn} {cur : Cur} {W : WX} {X : Cx} {pos : Pos}
theorem Fx.at {r r' : RA} {H H' : Hp} {p : Addr} {o u : HO} (fx : Fx C.tb r H r' H') (h : H p = none) (h' : H' p = some o) (ow : Ow p o) : Fx C.tb r H r' (L2.upd H' p u) := by
  refine ⟨fx.pre, fx.ext.trans (Ext.upd h' ow.stb), fun a w e z na => ⟨by rw [upd_ne (ne_of_none e h)]; exact (fx.frm a w e z na).1, (fx.frm a w e z na).2⟩, fun t b hb => ?_⟩
  obtain ⟨n1, ps, e1, t1, c1⟩ := fx.tab t b hb
  have ne1 : b.1 ≠ p := fun k => by
    rw [k, h'] at e1
    exact ow.tb _ (Option.some.inj e1)
  refine ⟨n1, ps, by rw [upd_ne ne1]; exact e1, t1, fun pos cv z => ?_⟩
  obtain ⟨c, k1, k2, k3⟩ := c1 pos cv z
  have ne2 : c ≠ p := fun k => by
    rw [k, h'] at k2
    exact ow.co _ (Option.some.inj k2)
  exact ⟨c, k1, by rw [upd_ne ne2]; exact k2, k3⟩
theorem Fx.more {r r' : RA} {H H' : Hp} {p : Addr} {o : HO} (fx : Fx C.tb r H r' H') (h : H p = none) (h' : H' p = some o) (ow : Ow p o) : Fx C.tb r H (r' ++ [(p, true)]) H' := by
  have ap : ∀ {a : Addr}, a ≠ p → (a, true) ∉ r' → (a, true) ∉ r' ++ [(p, true)] := fun {a} n z k => by
    rcases List.mem_append.mp k with k | k
    · exact z k
    · have k' := List.mem_singleton.mp k
      cases k'
      exact n rfl
  refine ⟨fx.pre.trans (List.prefix_append _ _), fx.ext, fun a u e z n => ⟨(fx.frm a u e z n).1, ap (ne_of_none e h) (fx.frm a u e z n).2⟩, fun t b hb => ?_⟩
  obtain ⟨n1, ps, e1, t1, c1⟩ := fx.tab t b hb
  have ne1 : b.1 ≠ p := fun k => by
    rw [k, h'] at e1
    exact ow.tb _ (Option.some.inj e1)
  refine ⟨ap ne1 n1, ps, e1, t1, fun pos cv z => ?_⟩
  obtain ⟨c, k1, k2, k3⟩ := c1 pos cv z
  have ne2 : c ≠ p := fun k => by
    rw [k, h'] at k2
    exact ow.co _ (Option.some.inj k2)
  exact ⟨c, k1, k2, ap ne2 k3⟩
theorem Rel.apart {ω : World} {K : PySem.W.Frag} {r : RA} {M : List MO} {H : Hp} {p : Addr} {o u : HO} (R : Rel ω K r M H) (n : (p, true) ∉ r) (h : H p = some o) (ns : Stb o = false) : Rel ω K r M (upd H p u) :=
  ⟨R.len, R.nd, fun i x a w e q => ⟨(R.obj i x a w e q).1, (R.ob e q).mono List.prefix_rfl (Ext.upd h ns) fun wx => upd_ne fun z => n (by
    rw [← z, ← wx, ← (R.obj i x a w e q).1]
    exact List.mem_of_getElem? q)⟩⟩
def turnC (P : Ev) (tg : Tg) (ifs : List CE) (elt : CE) (e : Env) {b : List MO} (d : D) (s2 : HS b) : R b (Option D) := noX (match tg.bind d e with
  | none => none
  | some e1 => bnd (evIf P none ifs e1 s2) fun b s3 => if b then bnd (evE P none elt e1 s3) fun y s4 => ret (some y) s4 else ret none s3)
theorem evE_lc {tg : Tg} {k : ITk} {sr ifs : List CE} {elt : CE} {own : List Nat} {b : List MO} {e : Env} {s : HS b} : evE P cur (.lc tg k sr ifs elt own) e s =
    bnd (bnd (evL P cur sr e s) fun xs s1 => srcR k xs s1) fun r s1 => bnd (lcL r.at (turnC P tg ifs elt (wipeE e own)) P.fu 0 [] s1) fun ys s2 => ret (.ref s2.M.length) (s2.alloc (.lst true ys)) := rfl
theorem turnC_ok {tg : Tg} {ifs : List CE} {elt : CE} {e : Env} {b : List MO} {d : D} {s2 : HS b} {o : Out b (Option D)} (h : turnC P tg ifs elt e d s2 = some o) : ∃ e1 k s3, tg.bind d e = some e1 ∧ evIf P none ifs e1 s2 = some (.ok k s3) ∧
    ((k = true ∧ ∃ y s4, evE P none elt e1 s3 = some (.ok y s4) ∧ o = .ok (some y) s4) ∨ (k = false ∧ o = .ok none s3)) := by
  obtain ⟨a, s, rfl, h'⟩ := noX_some h
  split at h'
  · cases h'
  · rename_i e1 he1
    obtain ⟨k, s3, h1, h2⟩ := bnd_some h'
    refine ⟨e1, k, s3, he1, h1, ?_⟩
    cases k with
    | true =>
      obtain ⟨y, s4, h3, h4⟩ := bnd_some h2
      cases h4
      exact .inl ⟨rfl, y, s, h3, rfl⟩
    | false =>
      cases h2
      exact .inr ⟨rfl, rfl⟩
theorem lc_read {K : PySem.W.Frag} (xg : C.xg = none) {tg : Tg} {k : ITk} {src ifs : List CE} {elt : CE} {own : List Nat} (fu : P.fu ≤ sizeLine) (hsub : ∀ i ∈ tg.slots, i ∈ own) {σ : Sl} {H : Hp} {Q : VK} (h : tE K C P cur W (.lc tg k src ifs elt own) σ H Q) :
    tLc (tI K C P cur W k src) (gTg K tg) (tIf K C P ifs) (tE K C P none W0 elt) own σ H Q := by
  obtain ⟨bb, s, rr, en, u, R, E, ev, post⟩ := h
  rw [show (fun {b_1 : List MO} e (s : HS b_1) => evE P cur (.lc tg k src ifs elt own) e s) en s = _ from evE_lc] at ev
  refine tN.seq (ev := fun e s => bnd (evL P cur src e s) fun xs s1 => srcR k xs s1) (RP := fun r H sr J => JOk C.w K J sr r H) R E ev post fun sr s1 r1 H1 J fx1 ev1 R1 E1 jok post1 => ?_
  intro Dd hD
  have dn : (Dd, true) ∉ r1 := fun z => by
    obtain ⟨i, hi⟩ := List.getElem?_of_mem z
    obtain ⟨u0, hu, _⟩ := R1.live hi
    rw [hD] at hu
    cases hu
  have fx0 : Fx C.tb r1 H1 r1 (upd H1 Dd (.lst [])) := Fx.new hD
  refine ⟨fun i m Hc => ∃ (s2 : HS bb) (r2 : RA) (acc : List D) (vs : List V), Fx C.tb r1 H1 r2 Hc ∧ Rel C.w K r2 s2.M Hc ∧ Hc Dd = some (.lst vs) ∧ RepL K r2 Hc acc vs ∧ (Dd, true) ∉ r2 ∧ acc.length + m ≤ P.fu ∧
      (bnd (lcL sr.at (turnC P tg ifs elt (wipeE en own)) m i acc s2) fun ys s3 => ret (D.ref s3.M.length) (s3.alloc (.lst true ys))) = some u,
    ⟨P.fu, s1, r1, [], [], fx0, R1.new hD, upd_same, rfl, dn, by simp, ev1⟩, ?_⟩
  rintro i m Hc ⟨s2, r2, acc, vs, fx2, R2, hDc, t2, dn2, hlen, ev2⟩
  have fxa := fx2
  cases m with
  | zero => cases ev2
  | succ m =>
    simp only [lcL] at ev2
    split at ev2
    · cases ev2
    · rename_i hat
      cases ev2
      obtain ⟨hstop, _⟩ := jok bb s2 r2 Hc i fxa.gx R2
      refine .inl ⟨hstop hat, ?_⟩
      have nin : ∀ {j : Nat} {a : Addr}, r2[j]? = some (a, true) → a ≠ Dd := fun {j a} q z => dn2 (by
        rw [← z]
        exact List.mem_of_getElem? q)
      have Rn : Rel C.w K (r2 ++ [(Dd, true)]) (s2.M ++ [.lst true acc]) Hc := by
        refine ⟨by simp [R2.len], fun j l a q1 q2 => ?_, fun j o a w e q => ?_⟩
        · rcases snoc_at q1 with ⟨h1, z1⟩ | ⟨h1, z1⟩
          · rcases snoc_at q2 with ⟨h2, z2⟩ | ⟨h2, z2⟩
            · exact R2.nd j l a z1 z2
            · cases z2
              exact absurd rfl (nin z1)
          · rcases snoc_at q2 with ⟨h2, z2⟩ | ⟨h2, z2⟩
            · cases z1
              exact absurd rfl (nin z2)
            · omega
        · rcases snoc_at e with ⟨h1, z1⟩ | ⟨h1, z1⟩
          · rcases snoc_at q with ⟨h2, z2⟩ | ⟨h2, z2⟩
            · obtain ⟨k1, k2⟩ := R2.obj j o a w z1 z2
              exact ⟨k1, k2.mono (List.prefix_append _ _) (Ext.refl _) fun _ => rfl⟩
            · rw [R2.len] at h2
              omega
          · rcases snoc_at q with ⟨h2, z2⟩ | ⟨h2, z2⟩
            · rw [R2.len] at h2
              omega
            · cases z2
              subst z1
              exact ⟨rfl, vs, hDc, RepL.mono (List.prefix_append _ _) (Ext.refl _) acc vs t2⟩
      have fxn : Fx C.tb r1 H1 (r2 ++ [(Dd, true)]) Hc := fxa.more hD hDc ow_lst
      exact post1 _ _ _ fxn Rn ⟨Dd, true, by rw [← R2.len]; simp, rfl⟩
    · rename_i d hat
      obtain ⟨_, hgo⟩ := jok bb s2 r2 Hc i fxa.gx R2
      obtain ⟨go, yld⟩ := hgo d hat
      refine .inr ⟨go, fun H' => ∃ m', m' < m + 1 ∧ ∃ (s2 : HS bb) (r2 : RA) (acc : List D) (vs : List V), Fx C.tb r1 H1 r2 H' ∧ Rel C.w K r2 s2.M H' ∧ H' Dd = some (.lst vs) ∧ RepL K r2 H' acc vs ∧ (Dd, true) ∉ r2 ∧ acc.length + m' ≤ P.fu ∧
          (bnd (lcL sr.at (turnC P tg ifs elt (wipeE en own)) m' (i + 1) acc s2) fun ys s3 => ret (D.ref s3.M.length) (s3.alloc (.lst true ys))) = some u, fun H' h => h, fun x H2 hy => ?_⟩
      obtain ⟨same, qx⟩ := yld x H2 hy
      have fx3 : Fx C.tb r2 Hc r2 H2 := Fx.same same
      have R3 : Rel C.w K r2 s2.M H2 := R2.same same
      cases htn : turnC P tg ifs elt (wipeE en own) d s2 with
      | none => rw [htn] at ev2; cases ev2
      | some ot =>
        rw [htn] at ev2
        obtain ⟨e1, kk, s3, hb, hif, hres⟩ := turnC_ok htn
        have E3 : EnvR C K r2 H2 (wipeE en own) (wipe σ own) := (E1.mono (fxa.trans fx3)).wipe xg own
        refine bind_ok hb qx E3 fun xs E4 => ⟨by rw [wipe_put hsub, wipe_wipe], ?_⟩
        refine ⟨bb, s2, r2, e1, _, R3, E4, hif, fun r4 H4 b4 fx4 R4 q4 => ?_⟩
        subst q4
        rcases hres with ⟨rfl, y, s4, hel, rfl⟩ | ⟨rfl, rfl⟩
        · refine iteT ⟨bb, s3, r4, e1, _, R4, E4.mono fx4, hel, fun r5 H5 w fx5 R5 q5 => ?_⟩
          have fx35 := fx3.trans (fx4.trans fx5)
          obtain ⟨hD5, dn5⟩ := fx35.frm Dd _ hDc (fun _ z => by cases z) dn2
          refine ⟨vs, hD5, ?_, m, Nat.lt_succ_self _, s4, r5, acc ++ [y], vs ++ [w], ?_, ?_, upd_same, ?_, dn5, ?_, ev2⟩
          · rw [RepL.length t2]
            omega
          · exact (fx2.trans fx35).at hD hD5 ow_lst
          · exact R5.apart dn5 hD5 rfl
          · exact RepL.app (RepL.mono fx35.pre (fx35.ext.trans (Ext.upd hD5 rfl)) _ _ t2) ⟨w, [], rfl, Rep.mono List.prefix_rfl (Ext.upd hD5 rfl) _ _ q5, rfl⟩
          · simp
            omega
        · refine iteF ⟨m, Nat.lt_succ_self _, s3, r4, acc, vs, fx2.trans (fx3.trans fx4), R4, ((fx3.trans fx4).frm Dd _ hDc (fun _ z => by cases z) dn2).1, RepL.mono (fx3.trans fx4).pre (fx3.trans fx4).ext _ _ t2, ((fx3.trans fx4).frm Dd _ hDc (fun _ z => by cases z) dn2).2, by omega, ev2⟩
theorem st_lc {tg : Tg} {k : ITk} {src ifs : List CE} {elt : CE} {own : List Nat} {ownp : List (Str × Nat)} {et it el : Expr} {eifs : List Expr} {scope : Scope} (xg : C.xg = none) (hc : X.calm = true) (hN : X.N.Nodup) (fu : P.fu ≤ sizeLine) (hi : PI X et it (tI X.K C P cur W k src)) (ok : BlkOk X.N X.env.scope scope ownp) (ho : ownp.map (·.2) = own)
    (hsub : ∀ i ∈ tg.slots, i ∈ own)
    (hg : ∀ (s : Shared) (H : Hp) (c : Addr) (cl : List (Str × Addr)) (fp : List Addr), PG (X.blk s H scope (compEnvC scope cl c X.env) fp) et (gTg X.K tg))
    (ht : ∀ (s : Shared) (H : Hp) (c : Addr) (cl : List (Str × Addr)) (fp : List Addr), PTs (X.blk s H scope (compEnvC scope cl c X.env) fp) eifs (tIf X.K C P ifs))
    (he : ∀ (s : Shared) (H : Hp) (c : Addr) (cl : List (Str × Addr)) (fp : List Addr), PE (X.blk s H scope (compEnvC scope cl c X.env) fp) el (tE X.K C P none W0 elt)) (hs : ∀ x, foldedSetIterable it X.env x = pure x) :
    PE X (.ListComp el [⟨et, it, eifs, 0⟩] scope pos) (tE X.K C P cur W (.lc tg k src ifs elt own)) := by
  refine PE.imp (pe_lc hc hN hi ok hg ht he hs) fun σ H Q h => ?_
  rw [ho]
  exact lc_read xg fu hsub h
end
end PV
set_option Elab.async false
set_option linter.all false
set_option autoImplicit false
set_option maxRecDepth 100000
set_option maxHeartbeats 2000000
namespace PV
open PySem PySem.Spec PyProof.Rows L2 RZ
section
variable {prog : Program} {w : World} {A : Around} {E : Value → Shared → Prop} {s : Shared}
abbrev Zs (h : Heap) (z p q : Addr) (x : Value) : Prop := h.get? z = some { cls := .type "zip", dict := none, data := .fields #[x, .bool false, .bool true, .ref p, .ref q], slots := #[] }
theorem noe_item {it l : Addr} {i : Nat} {vs : Array Value} {x : Value} {Q : Option Value → Shared → Prop} (a1 : s.heap.IsTupleIter it l i) (a2 : s.heap.IsTuple l vs) (a3 : vs[i]? = some x)
    (k : ∀ h', h'.IsTupleIter it l (i + 1) → Heap.SameBut it s.heap h' → Q (some x) { s with heap := h' }) : wpAny (model prog w) A (Builtin.SmallTypes.nextOrEnd (.ref it)) Q E s := by
  unfold Builtin.SmallTypes.nextOrEnd
  exact wpAny_bind (wpAny_attempt (nextOf_tuple_item a1 a2 a3 fun h' b1 b2 => wpAny_pure (k h' b1 b2)))
theorem noe_end {it l : Addr} {i : Nat} {vs : Array Value} {Q : Option Value → Shared → Prop} (hh : A.handled = none) (a1 : s.heap.IsTupleIter it l i) (a2 : s.heap.IsTuple l vs) (a3 : vs[i]? = none)
    (k : ∀ h', Heap.ExtBut it s.heap h' → Q none { s with heap := h' }) : wpAny (model prog w) A (Builtin.SmallTypes.nextOrEnd (.ref it)) Q E s := by
  unfold Builtin.SmallTypes.nextOrEnd
  refine wpAny_bind (wpAny_attempt (nextOf_tuple_end hh a1 a2 a3 fun h' e b1 ⟨o, b2, b3⟩ => ?_))
  exact wpAny_bind (wpAny_isInstance (T := "StopIteration") (b := true) ⟨o, b2, b3⟩ isSubtype_stop (wpAny_pure (k h' b1)))
structure Zst (h : Heap) (z p q i j a b : Addr) (n m : Nat) (f x y : Value) (xs ys : Array Value) : Prop where
  z : Zs h z p q f
  p : IsPair h p (.ref i) (.ref j)
  q : IsPair h q x y
  i : h.IsTupleIter i a n
  j : h.IsTupleIter j b m
  a : h.IsTuple a xs
  b : h.IsTuple b ys
theorem Zst.but {h h' : Heap} {z p q i j a b c : Addr} {n m : Nat} {f x y : Value} {xs ys : Array Value} (Z : Zst h z p q i j a b n m f x y xs ys) (e : ∀ d o, d ≠ z → d ≠ q → d ≠ i → d ≠ j → h.get? d = some o → h'.get? d = some o) (D : ZipApart z p q i j a b) :
    IsPair h' p (.ref i) (.ref j) ∧ h'.IsTuple a xs ∧ h'.IsTuple b ys := by
  refine ⟨e _ _ D.TIz D.TITO D.TIi1 D.TIi2 Z.p, ?_, ?_⟩
  · obtain ⟨o, e1, e2⟩ := Z.a
    exact ⟨o, e _ _ D.l1z D.l1TO D.l1i1 D.l1i2 e1, e2⟩
  · obtain ⟨o, e1, e2⟩ := Z.b
    exact ⟨o, e _ _ D.l2z D.l2TO D.l2i1 D.l2i2 e1, e2⟩
theorem zs_item {z p q i j a b : Addr} {n m : Nat} {x0 y0 x y : Value} {xs ys : Array Value} {Q : Value → Shared → Prop} (Z : Zst s.heap z p q i j a b n m .none x0 y0 xs ys) (D : ZipApart z p q i j a b) (hx : xs[n]? = some x) (hy : ys[m]? = some y)
    (k : ∀ h', Zs h' z p q (rawInt s.heap.objs.size) → IsPair h' q x y → h'.IsTupleIter i a (n + 1) → h'.IsTupleIter j b (m + 1) → IsPair h' s.heap.objs.size x y →
      (∀ d o, d ≠ z → d ≠ q → d ≠ i → d ≠ j → s.heap.get? d = some o → h'.get? d = some o) → Q (.ref s.heap.objs.size) { s with heap := h' }) :
    wpAny (model prog w) A (Builtin.«zip.__next__» ⟨[.ref z], []⟩) (fun fin s' => ∃ v, fin = .done (.ret v) ∧ Q v s') E s := by
  show wpAny _ _ (field (.ref z) 2 >>= _) _ _ _
  refine wpAny_bind (wpAny_field Z.z rfl (x := .bool true) rfl ?_)
  show wpAny _ _ (field (.ref z) 3 >>= _) _ _ _
  refine wpAny_bind (wpAny_field Z.z rfl (x := .ref p) rfl (wpAny_bind (wpAny_seqItems Z.p rfl ?_)))
  show wpAny _ _ (Builtin.SmallTypes.ownedTupleIsFree (.ref z) >>= _) _ _ _
  refine wpAny_bind ?_
  unfold Builtin.SmallTypes.ownedTupleIsFree
  refine wpAny_bind (wpAny_field Z.z rfl (x := .none) rfl (wpAny_pure ?_))
  simp only [if_true]
  refine wpAny_bind (wpAny_rule (wpAny_bind (wpAny_field Z.z rfl (x := .ref q) rfl ?_)))
  refine wpAny_bind (wpAny_setField_rec Z.z (by simp) fun k1 z1 u1 => ?_)
  replace z1 : Zs k1 z p q .ellipsis := z1
  refine wpAny_bind ?_
  simp only [List.zipIdx_cons, List.zipIdx_nil, List.forIn_cons, List.forIn_nil]
  refine wpAny_bind (wpAny_bind (wpAny_onRaise ?_))
  show wpAny _ _ (Builtin.SmallTypes.nextOrEnd (.ref i)) _ _ _
  refine noe_item (Z.i.extBut u1.extBut D.i1z) (Z.a.extBut u1.extBut D.l1z) hx fun k2 i2 u2 => ?_
  have q2 : IsPair k2 q x0 y0 := u2.extBut _ _ D.TOi1 (u1.extBut _ _ D.TOz Z.q)
  refine wpAny_bind (wpAny_seqItems q2 rfl (wpAny_bind (wpAny_updateSeq_pair q2 fun k3 q3 u3 => ?_)))
  replace q3 : IsPair k3 q x y0 := q3
  refine wpAny_bind (wpAny_letGo (wpAny_pure ?_))
  refine wpAny_bind (wpAny_bind (wpAny_onRaise ?_))
  show wpAny _ _ (Builtin.SmallTypes.nextOrEnd (.ref j)) _ _ _
  have j3 := ((Z.j.extBut u1.extBut D.i2z).extBut u2.extBut D.i12.symm).extBut u3.extBut D.TOi2.symm
  have b3 := ((Z.b.extBut u1.extBut D.l2z).extBut u2.extBut D.l2i1).extBut u3.extBut D.l2TO
  refine noe_item j3 b3 hy fun k4 j4 u4 => ?_
  have q4 : IsPair k4 q x y0 := u4.extBut _ _ D.TOi2 q3
  refine wpAny_bind (wpAny_seqItems q4 rfl (wpAny_bind (wpAny_updateSeq_pair q4 fun k5 q5 u5 => ?_)))
  replace q5 : IsPair k5 q x y := q5
  refine wpAny_bind (wpAny_letGo (wpAny_pure (wpAny_pure ?_)))
  refine wpAny_bind (wpAny_seqItems q5 rfl (wpAny_bind (wpAny_newTuple ?_)))
  have sz : k5.objs.size = s.heap.objs.size := by rw [u5.1, u4.1, u3.1, u2.1, u1.1]
  have z5 : Zs k5 z p q .ellipsis := u5.extBut _ _ D.TOz.symm (u4.extBut _ _ D.i2z.symm (u3.extBut _ _ D.TOz.symm (u2.extBut _ _ D.i1z.symm z1)))
  have keep : ∀ d o, d ≠ z → d ≠ q → d ≠ i → d ≠ j → s.heap.get? d = some o → k5.get? d = some o := fun d o c1 c2 c3 c4 e => u5.extBut _ _ c2 (u4.extBut _ _ c4 (u3.extBut _ _ c2 (u2.extBut _ _ c3 (u1.extBut _ _ c1 e))))
  have i5 := ((i2.extBut u3.extBut D.TOi1.symm).extBut u4.extBut D.i12).extBut u5.extBut D.TOi1.symm
  have j5 := j4.extBut u5.extBut D.TOi2.symm
  show wpAny _ _ (Builtin.SmallTypes.ownedTupleHandOut (.ref z) (.ref k5.objs.size) >>= _) _ _ _
  refine wpAny_bind ?_
  unfold Builtin.SmallTypes.ownedTupleHandOut
  have z6 : Zs (k5.push { cls := .type "tuple", data := .seq #[x, y] }) z p q .ellipsis := Heap.get?_push_of_some _ z5
  refine wpAny_bind (wpAny_setField_rec z6 (by simp) fun k7 z7 u7 => ?_)
  replace z7 : Zs k7 z p q (rawInt k5.objs.size) := z7
  refine wpAny_setField_rec z7 (by simp) fun k8 z8 u8 => ?_
  replace z8 : Zs k8 z p q (rawInt k5.objs.size) := z8
  have up : ∀ d o, d ≠ z → k5.get? d = some o → k8.get? d = some o := fun d o c1 e => u8.extBut _ _ c1 (u7.extBut _ _ c1 (Heap.get?_push_of_some _ e))
  have ne : k5.objs.size ≠ z := Nat.ne_of_gt (Heap.lt_size z5)
  have t8 : IsPair k8 k5.objs.size x y := u8.extBut _ _ ne (u7.extBut _ _ ne (Heap.get?_push_size _ rfl))
  rw [sz] at z8 t8
  refine wpAny_pure ⟨_, rfl, ?_⟩
  show Q (.ref k5.objs.size) _
  rw [sz]
  exact k k8 z8 (up _ _ D.TOz q5) (i5.at fun o e => up _ o D.i1z e) (j5.at fun o e => up _ o D.i2z e) t8 fun d o c1 c2 c3 c4 e => up d o c1 (keep d o c1 c2 c3 c4 e)
theorem stop_ok {α : Type} {Q : α → Shared → Prop} (hh : A.handled = none) (k : ∀ h' e, (∀ d o, s.heap.get? d = some o → h'.get? d = some o) → (∃ o, h'.get? e = some o ∧ o.cls = .type "StopIteration") → E (.ref e) { s with heap := h' }) :
    wpAny (model prog w) A (Builtin.SmallTypes.stopIteration : Sem α) Q E s := by
  unfold Builtin.SmallTypes.stopIteration
  refine wpAny_bind ?_
  simp only [newExc, newTuple]
  refine wpAny_bind (wpAny_newObj_type (wpAny_bind (m := firstArgMember _ _) (wpAny_of_eq (a := Value.none) (by first | rfl | (simp only [firstArgMember]; rfl)) (wpAny_newObj_type ?_ (by size_fits)))) (by size_fits))
  simp only [raiseNew]
  refine wpAny_bind (wpAny_handled ?_)
  rw [hh]
  refine wpAny_bind (wpAny_pure (wpAny_throw ?_))
  exact k _ _ (fun d o x => Heap.get?_push_of_some _ (Heap.get?_push_of_some _ x)) ⟨_, Heap.get?_push_size _ rfl, rfl⟩
theorem zs_end {z p q i j a b : Addr} {n m : Nat} {x0 y0 : Value} {xs ys : Array Value} {Q : Fin → Shared → Prop} (hh : A.handled = none) (Z : Zst s.heap z p q i j a b n m .none x0 y0 xs ys) (D : ZipApart z p q i j a b) (hx : xs[n]? = none) (hy : ys[m]? = none)
    (k : ∀ h' e, (∀ d o, d ≠ z → d ≠ q → d ≠ i → d ≠ j → s.heap.get? d = some o → h'.get? d = some o) → (∃ o, h'.get? e = some o ∧ o.cls = .type "StopIteration") → E (.ref e) { s with heap := h' }) :
    wpAny (model prog w) A (Builtin.«zip.__next__» ⟨[.ref z], []⟩) Q E s := by
  show wpAny _ _ (field (.ref z) 2 >>= _) _ _ _
  refine wpAny_bind (wpAny_field Z.z rfl (x := .bool true) rfl ?_)
  show wpAny _ _ (field (.ref z) 3 >>= _) _ _ _
  refine wpAny_bind (wpAny_field Z.z rfl (x := .ref p) rfl (wpAny_bind (wpAny_seqItems Z.p rfl ?_)))
  show wpAny _ _ (Builtin.SmallTypes.ownedTupleIsFree (.ref z) >>= _) _ _ _
  refine wpAny_bind ?_
  unfold Builtin.SmallTypes.ownedTupleIsFree
  refine wpAny_bind (wpAny_field Z.z rfl (x := .none) rfl (wpAny_pure ?_))
  simp only [if_true]
  refine wpAny_bind (wpAny_rule (wpAny_bind (wpAny_field Z.z rfl (x := .ref q) rfl ?_)))
  refine wpAny_bind (wpAny_setField_rec Z.z (by simp) fun k1 z1 u1 => ?_)
  replace z1 : Zs k1 z p q .ellipsis := z1
  refine wpAny_bind ?_
  simp only [List.zipIdx_cons, List.zipIdx_nil, List.forIn_cons, List.forIn_nil]
  refine wpAny_bind (wpAny_bind (wpAny_onRaise ?_))
  show wpAny _ _ (Builtin.SmallTypes.nextOrEnd (.ref i)) _ _ _
  refine noe_end hh (Z.i.extBut u1.extBut D.i1z) (Z.a.extBut u1.extBut D.l1z) hx fun k2 u2 => ?_
  have z2 : Zs k2 z p q .ellipsis := u2 _ _ D.i1z.symm z1
  refine wpAny_bind (wpAny_setField_rec z2 (by simp) fun k3 z3 u3 => ?_)
  have j3 := ((Z.j.extBut u1.extBut D.i2z).extBut u2 D.i12.symm).extBut u3.extBut D.i2z
  have b3 := ((Z.b.extBut u1.extBut D.l2z).extBut u2 D.l2i1).extBut u3.extBut D.l2z
  refine wpAny_bind ?_
  show wpAny _ _ (forIn [(Value.ref j, 1)] PUnit.unit _ >>= _) _ _ _
  refine wpAny_bind ?_
  simp only [List.drop_succ_cons, List.drop_zero, List.zipIdx_cons, List.zipIdx_nil, List.forIn_cons, List.forIn_nil]
  refine wpAny_bind (wpAny_bind (noe_end hh j3 b3 hy fun k4 u4 => ?_))
  simp only [Option.isSome_none, Bool.false_eq_true, if_false]
  refine wpAny_pure (wpAny_pure (wpAny_bind (wpAny_rule (stop_ok hh fun h' e up he => ?_))))
  exact k h' e (fun d o c1 c2 c3 c4 x => up d o (u4 _ _ c4 (u3.extBut _ _ c1 (u2 _ _ c3 (u1.extBut _ _ c1 x))))) he
theorem pn_item {z p q i j a b : Addr} {n m : Nat} {x0 y0 x y : Value} {xs ys : Array Value} {Q : Option Value → Shared → Prop} (Z : Zst s.heap z p q i j a b n m .none x0 y0 xs ys) (D : ZipApart z p q i j a b) (hx : xs[n]? = some x) (hy : ys[m]? = some y)
    (k : ∀ h', Zs h' z p q (rawInt s.heap.objs.size) → IsPair h' q x y → h'.IsTupleIter i a (n + 1) → h'.IsTupleIter j b (m + 1) → IsPair h' s.heap.objs.size x y →
      (∀ d o, d ≠ z → d ≠ q → d ≠ i → d ≠ j → s.heap.get? d = some o → h'.get? d = some o) → Q (some (.ref s.heap.objs.size)) { s with heap := h' }) :
    wpAny (model prog w) A (pyNext (.ref z)) Q E s := by
  have ty : s.TypeIs (.ref z) "zip" := ⟨_, Z.z, rfl⟩
  unfold pyNext
  refine wpAny_bind (wpAny_attempt (wpAny_callSpecial?_slot (name := Str.ofString "__next__") ty F.slot_zip_next (wpAny_call_entry F.slot_zip_next ty F.entry_zip_next ?_ (F.args_zip_next_1 _))))
  exact zs_item Z D hx hy fun h' c1 c2 c3 c4 c5 c6 => wpAny_pure (k h' c1 c2 c3 c4 c5 c6)
theorem pn_end {z p q i j a b : Addr} {n m : Nat} {x0 y0 : Value} {xs ys : Array Value} {Q : Option Value → Shared → Prop} (hh : A.handled = none) (Z : Zst s.heap z p q i j a b n m .none x0 y0 xs ys) (D : ZipApart z p q i j a b) (hx : xs[n]? = none) (hy : ys[m]? = none)
    (k : ∀ h', (∀ d o, d ≠ z → d ≠ q → d ≠ i → d ≠ j → s.heap.get? d = some o → h'.get? d = some o) → Q none { s with heap := h' }) : wpAny (model prog w) A (pyNext (.ref z)) Q E s := by
  have ty : s.TypeIs (.ref z) "zip" := ⟨_, Z.z, rfl⟩
  unfold pyNext
  refine wpAny_bind (wpAny_attempt (wpAny_callSpecial?_slot (name := Str.ofString "__next__") ty F.slot_zip_next (wpAny_call_entry F.slot_zip_next ty F.entry_zip_next ?_ (F.args_zip_next_1 _))))
  refine zs_end hh Z D hx hy fun h' e up ⟨o, ho, hc⟩ => ?_
  exact wpAny_bind (wpAny_isInstance (T := "StopIteration") (b := true) ⟨o, ho, hc⟩ isSubtype_stop (wpAny_pure (k h' up)))
theorem go_zs {elts : List Expr} {kk : Nat} {pos : Pos} {z p q t : Addr} {Q : Unit → Shared → Prop} (hz : Zs s.heap z p q (rawInt t)) (k : ∀ h', Zs h' z p q .none → Heap.SameBut z s.heap h' → Q () { s with heap := h' }) :
    wpAny (model prog w) A (letOwnedTupleGo (.Tuple elts kk pos) (.ref z) (.ref t)) Q E s := by
  unfold letOwnedTupleGo
  refine wpAny_bind (wpAny_load hz ?_)
  refine (fun h => ?_ : (["enumerate", "zip", "dict_itemiterator", "dict_reverseitemiterator", "odict_iterator", "itertools.zip_longest", "itertools.pairwise"].contains "zip" && (#[rawInt t, .bool false, .bool true, .ref p, .ref q] : Array Value)[0]? == some (rawInt t)) = true → _) (by simp)
  refine (congrArg (fun m => wpAny (model prog w) A m Q E s) (if_pos h)).mpr ?_
  refine wpAny_bind (wpAny_rule ?_)
  show wpAny _ _ (setField (.ref z) 0 .none) Q E s
  exact wpAny_setField_rec hz (by simp) fun h' c1 c2 => k h' c1 c2
theorem it_zs {z p q : Addr} {x : Value} {Q : Value → Shared → Prop} (hz : Zs s.heap z p q x) (h : Q (.ref z) s) : wpAny (model prog w) A (pyIter (.ref z)) Q E s := by
  have ty : s.TypeIs (.ref z) "zip" := ⟨_, hz, rfl⟩
  refine wpAny_pyIter_slot ty F.slot_zip_iter (wpAny_call_entry F.slot_zip_iter ty F.entry_zip_iter ?_ (F.args_zip_iter_1 _))
  show wpAny _ _ (PySem.ret (.ref z)) _ _ s
  exact wpAny_pure ⟨_, rfl, "zip", _, ty, F.slot_zip_next.lookup, h⟩
end
def ItzS (K : PySem.W.Frag) (a b : Addr) : It :=
  ⟨fun i H => ∃ (xs ys : List V) (x y : V), SqT K H a xs ∧ SqT K H b ys ∧ xs[i]? = some x ∧ ys[i]? = some y,
    fun i H v H' => ∃ T x y, v = .ref T ∧ H T = none ∧ H' = upd H T (.tup [x, y]) ∧ (∀ xs, SqT K H a xs → xs[i]? = some x) ∧ ∀ ys, SqT K H b ys → ys[i]? = some y,
    fun i H => ∃ xs ys : List V, SqT K H a xs ∧ SqT K H b ys ∧ xs.length ≤ i ∧ ys.length ≤ i⟩
def ZsAt (z p q u v a b : Addr) (i : Nat) (h : Heap) : Prop := Zs h z p q .none ∧ IsPair h p (.ref u) (.ref v) ∧ (∃ x y, IsPair h q x y) ∧ h.IsTupleIter u a i ∧ h.IsTupleIter v b i
theorem mem5 {c z p q u v : Addr} (h : c ∈ [z, p, q, u, v]) : c = z ∨ c = p ∨ c = q ∨ c = u ∨ c = v := by simpa using h
theorem not5 {c z p q u v : Addr} (h : c ∉ [z, p, q, u, v]) : c ≠ z ∧ c ≠ p ∧ c ≠ q ∧ c ≠ u ∧ c ≠ v := by simpa using h
theorem turn_zs {P : Program} {w : World} {K : PySem.W.Frag} {elts : List Expr} {kk : Nat} {tpos : Pos} {a b z p q u v : Addr} (D : ZipApart z p q u v a b) : Turn P w K (.Tuple elts kk tpos) (ItzS K a b) [z, p, q, u, v] z (ZsAt z p q u v a b) where
  mem := by simp
  obj := fun i h ⟨hz, hp, ⟨x, y, hq⟩, ⟨o1, e1, _, d1⟩, ⟨o2, e2, _, d2⟩⟩ c hc => by
    rcases mem5 hc with rfl | rfl | rfl | rfl | rfl
    · exact ⟨_, hz, fun _ r => nomatch r⟩
    · exact ⟨_, hp, fun _ r => nomatch r⟩
    · exact ⟨_, hq, fun _ r => nomatch r⟩
    · exact ⟨o1, e1, fun _ r => by rw [d1] at r; cases r⟩
    · exact ⟨o2, e2, fun _ r => by rw [d2] at r; cases r⟩
  keep := fun i h h' ⟨hz, hp, ⟨x, y, hq⟩, hu, hv⟩ k => ⟨k z (by simp) _ hz, k p (by simp) _ hp, ⟨x, y, k q (by simp) _ hq⟩, hu.at fun o r => k u (by simp) o r, hv.at fun o r => k v (by simp) o r⟩
  item := by
    intro X hP hw hK hc i pins s σ H E I hf ⟨hz, hp, ⟨x0, y0, hq⟩, hu, hv⟩ ⟨xs, ys, x, y, qx, qy, hx, hy⟩
    subst hP hw hK
    obtain ⟨its, rv, tx, _⟩ := I.tuple qx
    obtain ⟨its2, rv2, ty, _⟩ := I.tuple qy
    obtain ⟨ux, ex, rx⟩ := rv.get hx
    obtain ⟨uy, ey, ry⟩ := rv2.get hy
    have lz : z < s.heap.objs.size := Heap.lt_size hz
    refine pn_item (x := ux) (y := uy) ⟨hz, hp, hq, hu, hv, tx, ty⟩ D (by simpa using ex) (by simpa using ey) fun h1 z1 q1 u1 v1 t1 k1 => ⟨_, rfl, go_zs (s := { s with heap := h1 }) z1 fun h2 z2 sb => ?_⟩
    have t2 : h2.get? s.heap.objs.size = some { cls := .type "tuple", data := .seq #[ux, uy] } := (sb.2 _ (Nat.ne_of_gt lz)).trans t1
    have ok : ObjOk X.prog X.w (upd H s.heap.objs.size (.tup [x, y])) h2 s.heap.objs.size (.tup [x, y]) := ⟨by show 2 ≤ sizeLine; decide, [ux, uy], .cons rx (.cons ry .nil), ⟨_, t2, rfl, _, rfl⟩⟩
    have I2 : Inv X pins σ (upd H s.heap.objs.size (.tup [x, y])) { s with heap := h2 } := I.turnedNew (t' := s.toks) (ch := [z, p, q, u, v]) (fun c o hb r => by
      obtain ⟨n1, n2, n3, n4, n5⟩ := not5 hb
      exact (sb.2 c n1).trans (k1 c o n1 n3 n4 n5 r)) hf (Nat.le_refl _) ok
    refine ⟨.ref s.heap.objs.size, _, I2, rfl, ⟨_, x, y, rfl, I.hok.fresh (Nat.le_refl _), rfl, fun l hl => by rw [I.tuple_inj hl qx]; exact hx, fun l hl => by rw [I.tuple_inj hl qy]; exact hy⟩,
      ⟨z2, (sb.2 _ D.TIz).trans (k1 _ _ D.TIz D.TITO D.TIi1 D.TIi2 hp), ⟨ux, uy, (sb.2 _ D.TOz).trans q1⟩, u1.at fun o r => (sb.2 _ D.i1z).trans r, v1.at fun o r => (sb.2 _ D.i2z).trans r⟩, fun c hm => ?_⟩
    have lt : c < s.heap.objs.size := by
      rcases mem5 hm with rfl | rfl | rfl | rfl | rfl
      · exact lz
      · exact Heap.lt_size hp
      · exact Heap.lt_size hq
      · obtain ⟨_, e, _⟩ := hu; exact Heap.lt_size e
      · obtain ⟨_, e, _⟩ := hv; exact Heap.lt_size e
    rw [upd_ne (Nat.ne_of_lt lt)]
    exact (hf c hm).1
  done := by
    intro X hP hw hK hc i pins s σ H E I hf ⟨hz, hp, ⟨x0, y0, hq⟩, hu, hv⟩ ⟨xs, ys, qx, qy, lx, ly⟩
    subst hP hw hK
    obtain ⟨its, rv, tx, _⟩ := I.tuple qx
    obtain ⟨its2, rv2, ty, _⟩ := I.tuple qy
    have l1 := rv.length
    have l2 := rv2.length
    refine pn_end (I.ok.hd hc) ⟨hz, hp, hq, hu, hv, tx, ty⟩ D (by simp; omega) (by simp; omega) fun h1 k1 => ⟨rfl, I.turnedL (t' := s.toks) (ch := [z, p, q, u, v]) (fun c o hb r => ?_) hf⟩
    obtain ⟨n1, n2, n3, n4, n5⟩ := not5 hb
    exact k1 c o n1 n3 n4 n5 r
  self := fun A i s Q E st h => it_zs st.1 h
abbrev zs5 (h : Heap) (a b : Addr) : Heap := (zipTH4 h a b).push { cls := .type "zip", data := .fields #[.none, .bool false, .bool true, .ref (zipTH2 h a b).objs.size, .ref (zipTH3 h a b).objs.size] }
theorem tc_zs (a b : Value) : checkTypeCall "zip" ⟨[a, b], [(Str.ofString "strict", .bool true)]⟩ = pure () := by kernel_rfl
theorem nc_zs (a b : Value) : checkBuiltinCall "zip.__new__" ⟨[.type "zip", a, b], [(Str.ofString "strict", .bool true)]⟩ = pure () := by kernel_rfl
theorem ao_zs (o a b : Value) : argsOk "object.__init__" ⟨[o, a, b], [(Str.ofString "strict", .bool true)]⟩ := by unfold argsOk; kernel_rfl
theorem new_zs (a b : Addr) (xs ys : Array Value) : Meets (Builtin.«zip.__new__» ⟨[.type "zip", .ref a, .ref b], [(Str.ofString "strict", .bool true)]⟩) (fun _ R s => s.heap.IsTuple a xs ∧ s.heap.IsTuple b ys ∧ R (.ok (.ret (.ref (zipTH4 s.heap a b).objs.size))) { s with heap := zs5 s.heap a b }) :=
  .of_wp fun prog w A R s h => by
    obtain ⟨hp, g, d, tk, os⟩ := s
    obtain ⟨ha, hb, h⟩ := h
    have hsub := sub_zip
    have ta : Heap.IsTuple (Shared.heap ⟨hp, g, d, tk, os⟩) a xs := ha
    have tb : Heap.IsTuple (Shared.heap ⟨hp.push { cls := .type "tuple_iterator", data := .fields #[.ref a, .int 0 0] }, g, d, tk, os⟩) b ys := Heap.IsTuple.push hb _
    have e1 : (Str.ofString "strict" != ("strict" : Str)) = false := by decide +kernel
    wp_walk using wpAny_pyIter_tuple ta, wpAny_pyIter_tuple tb
    exact ⟨_, rfl, h⟩
theorem call_zs {prog : Program} {w : World} {A : Around} {E : Value → Shared → Prop} {s : Shared} {a b : Addr} {xs ys : Array Value} {Q : Value → Shared → Prop} (ha : s.heap.IsTuple a xs) (hb : s.heap.IsTuple b ys)
    (k : ∀ h', ZsAt (s.heap.objs.size + 4) (s.heap.objs.size + 2) (s.heap.objs.size + 3) s.heap.objs.size (s.heap.objs.size + 1) a b 0 h' → (∀ c o, s.heap.get? c = some o → h'.get? c = some o) → Q (.ref (s.heap.objs.size + 4)) { s with heap := h' }) :
    wpAny (model prog w) A (PySem.call (.type "zip") [.ref a, .ref b] [(Str.ofString "strict", .bool true)]) Q E s := by
  refine callType_newKw F.called_zip (by decide) (tc_zs _ _) (nc_zs _ _) (fun o => ao_zs o _ _) F.entry_zip_new (new_zs a b xs ys) ⟨ha, hb, ?_⟩
  obtain ⟨n, en⟩ : ∃ n, n = s.heap.objs.size := ⟨_, rfl⟩
  have w1 : (zipTH1 s.heap a).objs.size = n + 1 := by rw [Heap.size_push, en]
  have w2 : (zipTH2 s.heap a b).objs.size = n + 2 := by rw [Heap.size_push, w1]
  have w3 : (zipTH3 s.heap a b).objs.size = n + 3 := by rw [Heap.size_push, w2]
  have w4 : (zipTH4 s.heap a b).objs.size = n + 4 := by rw [Heap.size_push, w3]
  have v5 : (zs5 s.heap a b).get? (zipTH4 s.heap a b).objs.size = some _ := Heap.get?_push_size _ rfl
  have v4 : (zs5 s.heap a b).get? (zipTH3 s.heap a b).objs.size = some _ := Heap.get?_push_of_some _ (Heap.get?_push_size _ rfl)
  have v3 : (zs5 s.heap a b).get? (zipTH2 s.heap a b).objs.size = some _ := Heap.get?_push_of_some _ (Heap.get?_push_of_some _ (Heap.get?_push_size _ rfl))
  have v2 : (zs5 s.heap a b).get? (zipTH1 s.heap a).objs.size = some _ := Heap.get?_push_of_some _ (Heap.get?_push_of_some _ (Heap.get?_push_of_some _ (Heap.get?_push_size _ rfl)))
  have v1 : (zs5 s.heap a b).get? s.heap.objs.size = some _ := Heap.get?_push_of_some _ (Heap.get?_push_of_some _ (Heap.get?_push_of_some _ (Heap.get?_push_of_some _ (Heap.get?_push_size _ rfl))))
  rw [w2, w3, w4] at v5
  rw [w1, w2] at v3
  rw [w3] at v4
  rw [w1] at v2
  show _ ∧ _
  rw [w4]
  rw [← en] at v1 v3 k
  exact ⟨⟨_, v5, rfl⟩, k _ ⟨v5, v3, ⟨_, _, v4⟩, ⟨_, v1, rfl, rfl⟩, ⟨_, v2, rfl, rfl⟩⟩ fun c o x => Heap.get?_push_of_some _ (Heap.get?_push_of_some _ (Heap.get?_push_of_some _ (Heap.get?_push_of_some _ (Heap.get?_push_of_some _ x))))⟩
theorem cw_type {M : Model} {A : Around} {E : Value → Shared → Prop} {s : Shared} {pos : Pos} {T : String} {args : List (Bool × Sem Value)} {kws : List (Option Str × Sem Value)} {Q : Value → Shared → Prop} (h1 : args.any (·.1) = false) (h2 : kws.any (·.1.isNone) = false)
    (h : wpAny M A (evalArgs (.type T) true args kws) (fun a s₁ => wpAny M A (PySem.call (.type T) a.pos a.kw) Q E s₁) E s) : wpAny M A (callWith pos (.type T) [] args kws) Q E s := by
  unfold callWith
  refine wpAny_bind (wpAny_holding (wpAny_mono h (fun a s₁ ha => wpAny_bind (wpAny_standAt ?_)) fun _ _ x => x))
  rw [h1, h2]
  refine wpAny_bind (wpAny_pure ?_)
  refine wpAny_bind (wpAny_mono ha (fun r s₂ hr => ?_) fun _ _ x => x)
  exact wpAny_bind (wpAny_holding (wpAny_point (wpAny_pure hr)))
def iZipS (K : PySem.W.Frag) (ta : TA) : TI := fun σ H R => ta σ H fun vs H1 => ∃ a b xs ys, vs = [.ref a, .ref b] ∧ SqT K H1 a xs ∧ SqT K H1 b ys ∧ R (ItzS K a b) H1
theorem pi_zipS {X : Cx} {e e2 : Expr} {ta : TA} {p pos tpos cpos kpos : Pos} {elts : List Expr} {kk ck : Nat} (hg : Gl X "zip") (hm : X.mg "zip" = none) (hc : X.calm = true) (ha : PA X [e, e2] ta)
    (hs : starEach [e, e2] X.env = (false, eval e X.env) :: starEach [e2] X.env) (hpl : (backTo pos (starEach [e2] X.env)).any (·.1) = false) :
    PI X (.Tuple elts kk tpos) (.Call (.Name "zip" p) [e, e2] [⟨some "strict", .Constant (.bool true) ck cpos, kpos⟩] pos) (iZipS X.K ta) := by
  refine ⟨fun pins s σ H R I h => ?_⟩
  show wpAny _ _ (eval (.Name "zip" p) X.env >>= fun f => callWith pos f [] (backTo pos (starEach [e, e2] X.env)) (backToKw pos (keywordEach [⟨some "strict", .Constant (.bool true) ck cpos, kpos⟩] X.env))) _ _ _
  refine wpAny_bind (ld_blt I hg hm PyProof.Rows.boot_zip ?_)
  have run := ha.run pos pins s σ H _ I h
  have any : (backTo pos (starEach [e, e2] X.env)).any (·.1) = false := by
    rw [hs]
    show (false || (backTo pos (starEach [e2] X.env)).any (·.1)) = false
    rw [hpl]
    rfl
  refine cw_type any rfl ?_
  rw [hs] at run ⊢
  refine evalArgs_kwB rfl (thn run fun us s1 ⟨vs, H1, I1, r1, a, b, xs, ys, ex, qx, qy, q1⟩ => ?_)
  subst ex
  refine kws_cons (thn (pe_bl.run pins s1 σ H1 (fun v H' => v = .bl true ∧ H' = H1) I1 ⟨rfl, rfl⟩) fun u s2 ⟨x, H2, I2, r2, e1, e2⟩ => kws_nil ?_)
  subst e1 e2
  cases r1 with
  | cons ra rr =>
    cases rr with
    | cons rb rr =>
      cases rr
      cases ra
      cases rb
      cases r2
      obtain ⟨its, rv, tx, _⟩ := I2.tuple qx
      obtain ⟨its2, rv2, ty, _⟩ := I2.tuple qy
      obtain ⟨o1, ho1, _⟩ := id tx
      obtain ⟨o2, ho2, _⟩ := id ty
      show wpAny _ _ (PySem.call (.type "zip") [.ref a, .ref b] [(Str.ofString "strict", .bool true)]) _ _ _
      refine call_zs (show s2.heap.IsTuple a its.toArray from tx) (show s2.heap.IsTuple b its2.toArray from ty) fun h' zst up => it_zs zst.1 ?_
      have I3 : Inv X pins σ H2 { s2 with heap := h' } := I2.kept (t' := s2.toks) up
      refine ⟨_, [s2.heap.objs.size + 4, s2.heap.objs.size + 2, s2.heap.objs.size + 3, s2.heap.objs.size, s2.heap.objs.size + 1], _, _, H2, rfl, I3, turn_zs (PySem.W.ktu_apart s2.heap.objs.size a b (Heap.lt_size ho1) (Heap.lt_size ho2)), zst, fun c hm => ?_, q1⟩
      have hle : s2.heap.objs.size ≤ c := by rcases mem5 hm with rfl | rfl | rfl | rfl | rfl <;> omega
      exact I2.fpOk hle (I2.hok.fresh hle)
end PV
set_option Elab.async false
set_option linter.all false
set_option autoImplicit false
set_option maxRecDepth 100000
set_option maxHeartbeats 1000000
namespace PV
open PySem PySem.Spec PyProof.Rows L2
section
variable {P : Ev} {C : Cn} {cur : Cur} {W : WX} {X : Cx} {c : CE} {cs : List CE} {tg it : Expr} {es : List Expr} {pos : Pos}
theorem evL_one {b : List MO} {en : Env} {s : HS b} {F : List D → HS b → R b Src} : bnd (evL P cur [c] en s) F = bnd (evE P cur c en s) fun x s1 => F [x] s1 := by
  simp only [evL]
  cases evE P cur c en s with
  | none => rfl
  | some o => cases o <;> rfl
theorem sndI_val (hc : PE X it (tE X.K C P cur W c)) : PI X tg it (tI X.K C P cur W .val [c]) := by
  refine ⟨fun pins s0 σ H R0 I ⟨bb, s, rr, en, u, R, E, ev, post⟩ => ?_⟩
  rw [show (fun {b_1 : List MO} e (s : HS b_1) => bnd (evL P cur [c] e s) fun xs s1 => srcR .val xs s1) en s = _ from evL_one] at ev
  cases h : evE P cur c en s with
  | none => rw [h] at ev; cases ev
  | some o =>
    cases o with
    | ex c1 fs s1 =>
      rw [h] at ev
      cases ev
      exact (pi_list hc).run pins s0 σ H R0 I ⟨bb, s, rr, en, _, R, E, h, post⟩
    | ok d s1 =>
      rw [h] at ev
      cases d <;> simp only [bnd, srcR, src, ret] at ev <;> try (cases ev; done)
      case tup ys =>
        cases ev
        refine (pi_tup hc).run pins s0 σ H R0 I ⟨bb, s, rr, en, _, R, E, h, fun r1 H1 v fx R1 q => ?_⟩
        obtain ⟨a, vs, rfl, q1, t1⟩ := q
        exact ⟨a, rfl, ⟨vs, q1⟩, post r1 H1 _ fx R1 (jok_tup q1 t1)⟩
      case ref p =>
        split at ev
        · cases ev
        · rename_i sr hsr
          split at hsr
          · rename_i w xs hm
            cases hsr
            cases ev
            refine (pi_list hc).run pins s0 σ H R0 I ⟨bb, s, rr, en, _, R, E, h, fun r1 H1 v fx R1 q => ?_⟩
            obtain ⟨a, wa, ha, rfl⟩ := q
            obtain ⟨vs, q1, _⟩ := (R1.ob hm ha).sq
            exact ⟨a, rfl, ⟨vs, q1⟩, post r1 H1 _ fx R1 (jok_live ha)⟩
          · cases hsr
theorem sndI_rng1 {e : Expr} {p : Pos} (hg : Gl X "range") (hm : X.mg "range" = none) (ha : PA X [e] (tL X.K C P cur W cs)) (hs : starEach [e] X.env = [(false, eval e X.env)]) : PI X tg (.Call (.Name "range" p) [e] [] pos) (tI X.K C P cur W .range cs) :=
  PI.imp (pi_range1 hg hm ha hs) fun σ H Q ⟨bb, s, rr, en, u, R, E, ev, post⟩ => by
    refine tN.seq (ev := fun e s => evL P cur cs e s) (RP := RDL X.K) R E ev post fun xs s1 r1 H1 vs fx1 ev1 R1 E1 q1 post1 => ?_
    simp only [srcR, src] at ev1
    split at ev1
    · cases ev1
    · rename_i sr hsr
      cases ev1
      split at hsr
      · rename_i n
        split at hsr
        · rename_i z
          cases hsr
          simp only [Bool.and_eq_true, decide_eq_true_eq] at z
          obtain ⟨v, rfl, h1⟩ := one_rep q1
          exact ⟨n, by rw [show v = .int n from h1], z.1, z.2, post1.self R1 jok_rng⟩
        · cases hsr
      · cases hsr
theorem sndI_rng2 {e e2 : Expr} {p : Pos} (hg : Gl X "range") (hm : X.mg "range" = none) (ha : PA X [e, e2] (tL X.K C P cur W cs)) (hs : starEach [e, e2] X.env = [(false, eval e X.env), (false, eval e2 X.env)]) (hs2 : starEach [e2] X.env = [(false, eval e2 X.env)]) : PI X tg (.Call (.Name "range" p) [e, e2] [] pos) (tI X.K C P cur W .range2 cs) :=
  PI.imp (pi_range2 hg hm ha hs hs2) fun σ H Q ⟨bb, s, rr, en, u, R, E, ev, post⟩ => by
    refine tN.seq (ev := fun e s => evL P cur cs e s) (RP := RDL X.K) R E ev post fun xs s1 r1 H1 vs fx1 ev1 R1 E1 q1 post1 => ?_
    simp only [srcR, src] at ev1
    split at ev1
    · cases ev1
    · rename_i sr hsr
      cases ev1
      split at hsr
      · rename_i n m
        split at hsr
        · rename_i z
          cases hsr
          simp only [Bool.and_eq_true, decide_eq_true_eq] at z
          obtain ⟨v, w, rfl, h1, h2⟩ := two_rep q1
          exact ⟨n, m, by rw [show v = .int n from h1, show w = .int m from h2], ⟨z.1.1.1, z.1.1.2, z.1.2, z.2⟩, post1.self R1 jok_rng⟩
        · cases hsr
      · cases hsr
theorem sndI_zip {e e2 : Expr} {p tpos : Pos} {elts : List Expr} {kk : Nat} (hg : Gl X "zip") (hm : X.mg "zip" = none) (ha : PA X [e, e2] (tL X.K C P cur W cs)) (hs : starEach [e, e2] X.env = (false, eval e X.env) :: starEach [e2] X.env) (hpl : (backTo pos (starEach [e2] X.env)).any (·.1) = false) :
    PI X (.Tuple elts kk tpos) (.Call (.Name "zip" p) [e, e2] [] pos) (tI X.K C P cur W .zip cs) :=
  PI.imp (RZ.pi_zipA hg hm ha hs hpl) fun σ H Q ⟨bb, s, rr, en, u, R, E, ev, post⟩ => by
    refine tN.seq (ev := fun e s => evL P cur cs e s) (RP := RDL X.K) R E ev post fun xs s1 r1 H1 vs fx1 ev1 R1 E1 q1 post1 => ?_
    simp only [srcR, src] at ev1
    split at ev1
    · cases ev1
    · rename_i sr hsr
      cases ev1
      split at hsr
      · rename_i x y
        cases hsr
        obtain ⟨v, w, rfl, h1, h2⟩ := two_rep q1
        obtain ⟨a, vs, rfl, k1, t1⟩ := h1
        obtain ⟨c, ws, rfl, k2, t2⟩ := h2
        exact ⟨a, c, vs, ws, rfl, .inr ⟨k1, k2, post1.self R1 (jok_zip k1 t1 k2 t2)⟩⟩
      · cases hsr
theorem jok_zipS {ω : World} {K : PySem.W.Frag} {r : RA} {H : Hp} {a c : Addr} {xs ys : List D} {vs ws : List V} (q : SqT K H a vs) (t : RepL K r H xs vs) (q2 : SqT K H c ws) (t2 : RepL K r H ys ws) (hl : xs.length = ys.length) : JOk ω K (ItzS K a c) (.its (List.zipWith (fun x y => .tup [x, y]) xs ys)) r H := by
  intro b s r' H' i fx R
  obtain ⟨h1, h2⟩ := jok_zip q t q2 t2 b s r' H' i fx R
  refine ⟨fun e => ?_, fun d e => ?_⟩
  · simp only [Src.at, Option.some.injEq, List.getElem?_eq_none_iff, List.length_zipWith] at e
    refine ⟨vs, ws, fx.ext.sqT q, fx.ext.sqT q2, ?_, ?_⟩
    · rw [t.length]; omega
    · rw [t2.length]; omega
  · obtain ⟨k1, k2⟩ := h2 d e
    exact ⟨k1, k2⟩
theorem sndI_zipS {e e2 : Expr} {p tpos cpos kpos : Pos} {elts : List Expr} {kk ck : Nat} (hg : Gl X "zip") (hm : X.mg "zip" = none) (hc : X.calm = true) (ha : PA X [e, e2] (tL X.K C P cur W cs)) (hs : starEach [e, e2] X.env = (false, eval e X.env) :: starEach [e2] X.env) (hpl : (backTo pos (starEach [e2] X.env)).any (·.1) = false) :
    PI X (.Tuple elts kk tpos) (.Call (.Name "zip" p) [e, e2] [⟨some "strict", .Constant (.bool true) ck cpos, kpos⟩] pos) (tI X.K C P cur W .zipS cs) :=
  PI.imp (pi_zipS hg hm hc ha hs hpl) fun σ H Q ⟨bb, s, rr, en, u, R, E, ev, post⟩ => by
    refine tN.seq (ev := fun e s => evL P cur cs e s) (RP := RDL X.K) R E ev post fun xs s1 r1 H1 vs fx1 ev1 R1 E1 q1 post1 => ?_
    simp only [srcR, src] at ev1
    split at ev1
    · cases ev1
    · rename_i sr hsr
      cases ev1
      split at hsr
      · rename_i x y
        split at hsr
        · rename_i z
          cases hsr
          obtain ⟨v, w, rfl, h1, h2⟩ := two_rep q1
          obtain ⟨a, vs, rfl, k1, t1⟩ := h1
          obtain ⟨c, ws, rfl, k2, t2⟩ := h2
          exact ⟨a, c, vs, ws, rfl, k1, k2, post1.self R1 (jok_zipS k1 t1 k2 t2 z)⟩
        · cases hsr
      · cases hsr
end
end PV
set_option Elab.async false
set_option linter.all false
set_option autoImplicit false
set_option maxRecDepth 100000
set_option maxHeartbeats 4000000
namespace PV
open PySem PySem.Spec PyProof.Rows L2
def chkI (T : Tb) (hot : Bool) (N : List Str) (sc : Scope) (k : ITk) (src : List CE) (t it : Expr) : Bool := match k with
  | .val => (match src with
    | [c] => chkE T hot N sc c it && (match it with | .Set _ _ _ => false | _ => true)
    | _ => false)
  | .range => (match it with
    | .Call (.Name x _) args [] _ => decide (x = ("range" : Str)) && glB sc x && T.fr.contains x && chkL T hot N sc src args && args.length == 1
    | _ => false)
  | .range2 => (match it with
    | .Call (.Name x _) args [] _ => decide (x = ("range" : Str)) && glB sc x && T.fr.contains x && chkL T hot N sc src args && args.length == 2
    | _ => false)
  | .zip => (match t with
    | .Tuple _ _ _ => (match it with
      | .Call (.Name x _) [a1, a2] [] _ => decide (x = ("zip" : Str)) && glB sc x && T.fr.contains x && chkL T hot N sc src [a1, a2]
      | _ => false)
    | _ => false)
  | .zipS => (match t with
    | .Tuple _ _ _ => (match it with
      | .Call (.Name x _) [a1, a2] [⟨some kn, .Constant (.bool true) _ _, _⟩] _ => decide (x = ("zip" : Str)) && decide (kn = ("strict" : Str)) && glB sc x && T.fr.contains x && chkL T hot N sc src [a1, a2]
      | _ => false)
    | _ => false)
theorem chkL_cons {T : Tb} {hot : Bool} {N : List Str} {sc : Scope} {c : CE} {cs : List CE} {es : List Expr} (h : chkL T hot N sc (c :: cs) es = true) : ∃ e r, es = e :: r ∧ chkE T hot N sc c e = true ∧ chkL T hot N sc cs r = true := by
  cases es with
  | nil => simp [chkL] at h
  | cons e r =>
    simp only [chkL, Bool.and_eq_true] at h
    exact ⟨e, r, rfl, h.1, h.2⟩
theorem chkL_nil {T : Tb} {hot : Bool} {N : List Str} {sc : Scope} {es : List Expr} (h : chkL T hot N sc [] es = true) : es = [] := by
  simpa [chkL] using h
theorem chkL_to {T : Tb} {hot : Bool} {N : List Str} {sc : Scope} : ∀ {cs : List CE} {e : Expr} {es : List Expr}, chkL T hot N sc cs (e :: es) = true → ∃ c cr, cs = c :: cr ∧ chkE T hot N sc c e = true ∧ chkL T hot N sc cr es = true
  | [], e, es, h => by simp [chkL] at h
  | c :: cr, e, es, h => by
    simp only [chkL, Bool.and_eq_true] at h
    exact ⟨c, cr, rfl, h.1, h.2⟩
theorem set_fold {it : Expr} (h : (match it with | .Set _ _ _ => false | _ => true) = true) (env : PySem.Env) (x : Value) : foldedSetIterable it env x = pure x := by
  cases it <;> first | rfl | cases h
theorem chkI_fold {T : Tb} {hot : Bool} {N : List Str} {sc : Scope} {k : ITk} {src : List CE} {t it : Expr} (h : chkI T hot N sc k src t it = true) (env : PySem.Env) (x : Value) : foldedSetIterable it env x = pure x := by
  cases k with
  | val =>
    simp only [chkI] at h
    split at h
    · simp only [Bool.and_eq_true] at h
      exact set_fold h.2 env x
    · cases h
  | range =>
    simp only [chkI] at h
    split at h
    · rfl
    · cases h
  | range2 =>
    simp only [chkI] at h
    split at h
    · rfl
    · cases h
  | zip =>
    simp only [chkI] at h
    split at h
    · split at h
      · rfl
      · cases h
    · cases h
  | zipS =>
    simp only [chkI] at h
    split at h
    · split at h
      · rfl
      · cases h
    · cases h
section
variable {T : Tb} {P : Ev} {C : Cn} {hot : Bool} {cur : Cur} {W : WX} {k : Nat} {X : Cx}
theorem no_excf {i : Nat} {f : Str} {e : Expr} : PE X e (tE X.K C P none W (.excf i f)) := ⟨fun _ _ _ _ _ _ ⟨_, _, _, _, _, _, _, ev, _⟩ => by cases ev⟩
theorem no_exci {i : Nat} {y : Str} {e : Expr} : PE X e (tE X.K C P none W (.exci i y)) := ⟨fun _ _ _ _ _ _ ⟨_, _, _, _, _, _, _, ev, _⟩ => by cases ev⟩
theorem Gd.blk (G : Gd T P C false cur W k X) (s : Shared) (H : Hp) (scope : Scope) (cenv : PySem.Env) (fp : List Addr) (h1 : cenv.code = X.env.code := by rfl) (h2 : cenv.qual = X.env.qual := by rfl) : Gd T P C false none W0 k (X.blk s H scope cenv fp) :=
  ⟨G.cw, G.nd, G.un, G.gd, G.fu, G.gl, G.fr, G.calm, G.room, fun _ => rfl, G.xg0, takes0, G.low, fun z => (by
    obtain ⟨c, p, e1, e2, e3, e4⟩ := G.lam z
    refine ⟨c, p, e1, ?_, ?_, ?_⟩
    · show cenv.code = _
      rw [h1]; exact e2
    · show (p, cenv.qual ++ _) ∈ _
      rw [h2]; exact e3
    · show ∀ t, t ∈ C.tb → t.1 = p → t.2 = cenv.qual ++ _
      rw [h2]; exact e4), G.fn, fun _ _ _ _ _ _ _ _ => no_excf, fun _ _ _ _ _ _ _ _ _ _ _ _ _ _ => no_exci⟩
theorem blk_scope {scope : Scope} {cl : List (Str × Addr)} {c : Addr} : (compEnvC scope cl c X.env).scope = relS scope X.env.scope := rfl
theorem fr_of (G : Gd T P C hot cur W k X) {x : Str} (h : T.fr.contains x = true) : X.mg x = none := G.fr x (by simpa using h)
theorem sndI (G : Gd T P C false cur W k X) {kk : ITk} {src : List CE} {t it : Expr} (h : chkI T false X.N X.env.scope kk src t it = true)
    (hL : ∀ es, chkL T false X.N X.env.scope src es = true → PA X es (tL X.K C P cur W src)) (h1 : ∀ c e, src = [c] → chkE T false X.N X.env.scope c e = true → PE X e (tE X.K C P cur W c)) : PI X t it (tI X.K C P cur W kk src) ∧ ∀ env x, foldedSetIterable it env x = pure x := by
  cases kk with
  | val =>
    simp only [chkI] at h
    split at h
    · rename_i c
      simp only [Bool.and_eq_true] at h
      exact ⟨sndI_val (h1 c it rfl h.1), set_fold h.2⟩
    · cases h
  | range =>
    simp only [chkI] at h
    split at h
    · rename_i x p args pos
      simp only [Bool.and_eq_true, decide_eq_true_eq] at h
      obtain ⟨⟨⟨⟨rfl, h2⟩, h3⟩, h4⟩, h5⟩ := h
      match args, h4, h5 with
      | [e], h4, _ =>
        obtain ⟨c, cr, rfl, hc, _⟩ := chkL_to h4
        exact ⟨sndI_rng1 (gl_of h2) (fr_of G h3) (hL _ h4) (star_of (chk_ns hc) [] X.env), fun _ _ => rfl⟩
    · cases h
  | range2 =>
    simp only [chkI] at h
    split at h
    · rename_i x p args pos
      simp only [Bool.and_eq_true, decide_eq_true_eq] at h
      obtain ⟨⟨⟨⟨rfl, h2⟩, h3⟩, h4⟩, h5⟩ := h
      match args, h4, h5 with
      | [e, e2], h4, _ =>
        obtain ⟨c, cr, rfl, hc, hr⟩ := chkL_to h4
        obtain ⟨c2, cr2, rfl, hc2, _⟩ := chkL_to hr
        have s2 : starEach [e2] X.env = [(false, eval e2 X.env)] := star_of (chk_ns hc2) [] X.env
        exact ⟨sndI_rng2 (gl_of h2) (fr_of G h3) (hL _ h4) (by rw [star_of (chk_ns hc) [e2] X.env, s2]) s2, fun _ _ => rfl⟩
    · cases h
  | zip =>
    simp only [chkI] at h
    split at h
    · split at h
      · rename_i x p a1 a2 pos
        simp only [Bool.and_eq_true, decide_eq_true_eq] at h
        obtain ⟨⟨⟨rfl, h2⟩, h3⟩, h4⟩ := h
        obtain ⟨c, cr, rfl, hc, hr⟩ := chkL_to h4
        exact ⟨sndI_zip (gl_of h2) (fr_of G h3) (hL _ h4) (star_of (chk_ns hc) [a2] X.env) (any_ns hr), fun _ _ => rfl⟩
      · cases h
    · cases h
  | zipS =>
    simp only [chkI] at h
    split at h
    · split at h
      · rename_i x p a1 a2 kn ck cpos kpos pos
        simp only [Bool.and_eq_true, decide_eq_true_eq] at h
        obtain ⟨⟨⟨⟨rfl, rfl⟩, h2⟩, h3⟩, h4⟩ := h
        obtain ⟨c, cr, rfl, hc, hr⟩ := chkL_to h4
        exact ⟨sndI_zipS (gl_of h2) (fr_of G h3) (G.calm rfl) (hL _ h4) (star_of (chk_ns hc) [a2] X.env) (any_ns hr), fun _ _ => rfl⟩
      · cases h
    · cases h
end
end PV
set_option Elab.async false
set_option linter.all false
set_option autoImplicit false
set_option maxRecDepth 100000
set_option maxHeartbeats 1000000
namespace PV
open PySem PySem.Spec PyProof.Rows L2
theorem Rel.joinO {ω : World} {K : PySem.W.Frag} {r : RA} {M : List MO} {H : Hp} {p : Addr} {o : MO} (R : Rel ω K r M H) (n : (p, true) ∉ r) (wo : o.wr = true) (ho : RO ω K (r ++ [(p, true)]) H p o) : Rel ω K (r ++ [(p, true)]) (M ++ [o]) H := by
  have nin : ∀ {j : Nat} {a : Addr}, r[j]? = some (a, true) → a ≠ p := fun {j a} q z => n (by
    rw [← z]
    exact List.mem_of_getElem? q)
  refine ⟨by simp [R.len], fun j l a q1 q2 => ?_, fun j x a w e q => ?_⟩
  · rcases snoc_at q1 with ⟨h1, z1⟩ | ⟨h1, z1⟩
    · rcases snoc_at q2 with ⟨h2, z2⟩ | ⟨h2, z2⟩
      · exact R.nd j l a z1 z2
      · cases z2
        exact absurd rfl (nin z1)
    · rcases snoc_at q2 with ⟨h2, z2⟩ | ⟨h2, z2⟩
      · cases z1
        exact absurd rfl (nin z2)
      · omega
  · rcases snoc_at e with ⟨h1, z1⟩ | ⟨h1, z1⟩
    · rcases snoc_at q with ⟨h2, z2⟩ | ⟨h2, z2⟩
      · obtain ⟨k1, k2⟩ := R.obj j x a w z1 z2
        exact ⟨k1, k2.mono (List.prefix_append _ _) (Ext.refl _) fun _ => rfl⟩
      · rw [R.len] at h2
        omega
    · rcases snoc_at q with ⟨h2, z2⟩ | ⟨h2, z2⟩
      · rw [R.len] at h2
        omega
      · cases z2
        subst z1
        exact ⟨wo.symm, ho⟩
section
variable {P : Ev} {C : Cn} {cur : Cur} {W : WX} {X : Cx} {pos : Pos}
def turnK (P : Ev) (tg : Tg) (ifs : List CE) (ke ve : CE) (e : Env) {b : List MO} (d : D) (s2 : HS b) : R b (Option (D × D)) := noX (match tg.bind d e with
  | none => none
  | some e1 => bnd (evIf P none ifs e1 s2) fun b s3 => if b then bnd (evE P none ke e1 s3) fun y s4 => bnd (evE P none ve e1 s4) fun z s5 => ret (some (y, z)) s5 else ret none s3)
theorem evE_dc {tg : Tg} {k : ITk} {sr ifs : List CE} {ke ve : CE} {own : List Nat} {b : List MO} {e : Env} {s : HS b} : evE P cur (.dc tg k sr ifs ke ve own) e s =
    bnd (bnd (evL P cur sr e s) fun xs s1 => srcR k xs s1) fun r s1 => bnd (dcL r.at (turnK P tg ifs ke ve (wipeE e own)) P.fu 0 (0, []) s1) fun ys s2 => ret (.ref s2.M.length) (s2.alloc (.dct ys.1 ys.2)) := rfl
theorem turnK_ok {tg : Tg} {ifs : List CE} {ke ve : CE} {e : Env} {b : List MO} {d : D} {s2 : HS b} {o : Out b (Option (D × D))} (h : turnK P tg ifs ke ve e d s2 = some o) : ∃ e1 k s3, tg.bind d e = some e1 ∧ evIf P none ifs e1 s2 = some (.ok k s3) ∧
    ((k = true ∧ ∃ y s4 z s5, evE P none ke e1 s3 = some (.ok y s4) ∧ evE P none ve e1 s4 = some (.ok z s5) ∧ o = .ok (some (y, z)) s5) ∨ (k = false ∧ o = .ok none s3)) := by
  obtain ⟨a, s, rfl, h'⟩ := noX_some h
  split at h'
  · cases h'
  · rename_i e1 he1
    obtain ⟨k, s3, h1, h2⟩ := bnd_some h'
    refine ⟨e1, k, s3, he1, h1, ?_⟩
    cases k with
    | true =>
      obtain ⟨y, s4, h3, h4⟩ := bnd_some h2
      obtain ⟨z, s5, h5, h6⟩ := bnd_some h4
      cases h6
      exact .inl ⟨rfl, y, s4, z, s, h3, h5, rfl⟩
    | false =>
      cases h2
      exact .inr ⟨rfl, rfl⟩
theorem dc_read {K : PySem.W.Frag} (xg : C.xg = none) {tg : Tg} {k : ITk} {src ifs : List CE} {ke ve : CE} {own : List Nat} (hsub : ∀ i ∈ tg.slots, i ∈ own) {σ : Sl} {H : Hp} {Q : VK} (h : tE K C P cur W (.dc tg k src ifs ke ve own) σ H Q) :
    tDx C.w K (tI K C P cur W k src) (gTg K tg) (tIf K C P ifs) (tE K C P none W0 ke) (tE K C P none W0 ve) own σ H Q := by
  obtain ⟨bb, s, rr, en, u, R, E, ev, post⟩ := h
  rw [show (fun {b_1 : List MO} e (s : HS b_1) => evE P cur (.dc tg k src ifs ke ve own) e s) en s = _ from evE_dc] at ev
  refine tN.seq (ev := fun e s => bnd (evL P cur src e s) fun xs s1 => srcR k xs s1) (RP := fun r H sr J => JOk C.w K J sr r H) R E ev post fun sr s1 r1 H1 J fx1 ev1 R1 E1 jok post1 => ?_
  intro Dd hD
  have dn : (Dd, true) ∉ r1 := fun z => by
    obtain ⟨i, hi⟩ := List.getElem?_of_mem z
    obtain ⟨u0, hu, _⟩ := R1.live hi
    rw [hD] at hu
    cases hu
  let St : Nat → Nat → Hp → Prop := fun i m Hc => ∃ (s2 : HS bb) (r2 : RA) (acc : Nat × KV) (xs : List DE), Fx C.tb r1 H1 r2 Hc ∧ Rel C.w K r2 s2.M Hc ∧ Hc Dd = some (DctO C.w Dd acc.1 xs) ∧ (xs.map (·.1)).Nodup ∧ RepKV K r2 Hc acc.2 xs ∧ (Dd, true) ∉ r2 ∧
      (bnd (dcL sr.at (turnK P tg ifs ke ve (wipeE en own)) m i acc s2) fun ys s3 => ret (D.ref s3.M.length) (s3.alloc (.dct ys.1 ys.2))) = some u
  have fx0 : Fx C.tb r1 H1 r1 (upd H1 Dd (DctO C.w Dd 0 [])) := Fx.new hD
  refine ⟨St, ⟨P.fu, s1, r1, (0, []), [], fx0, R1.new hD, upd_same, List.nodup_nil, rfl, dn, ev1⟩, ?_⟩
  rintro i m Hc ⟨s2, r2, acc, xs, fx2, R2, hDc, hnd, t2, dn2, ev2⟩
  cases m with
  | zero => cases ev2
  | succ m =>
    simp only [dcL] at ev2
    split at ev2
    · cases ev2
    · rename_i hat
      cases ev2
      obtain ⟨hstop, _⟩ := jok bb s2 r2 Hc i fx2.gx R2
      refine .inl ⟨hstop hat, ?_⟩
      exact post1 _ _ _ (fx2.more hD hDc ow_dct) (R2.joinO dn2 rfl ⟨xs, hDc, hnd, RepKV.mono (List.prefix_append _ _) (Ext.refl _) _ _ t2⟩) ⟨Dd, true, by rw [← R2.len]; simp, rfl⟩
    · rename_i d hat
      obtain ⟨_, hgo⟩ := jok bb s2 r2 Hc i fx2.gx R2
      obtain ⟨go, yld⟩ := hgo d hat
      refine .inr ⟨go, fun H' => ∃ m', m' < m + 1 ∧ St (i + 1) m' H', fun H' h => h, fun x H2 hy => ?_⟩
      obtain ⟨same, qx⟩ := yld x H2 hy
      have fx3 : Fx C.tb r2 Hc r2 H2 := Fx.same same
      have R3 : Rel C.w K r2 s2.M H2 := R2.same same
      cases htn : turnK P tg ifs ke ve (wipeE en own) d s2 with
      | none => rw [htn] at ev2; cases ev2
      | some ot =>
        rw [htn] at ev2
        obtain ⟨e1, kk, s3, hb, hif, hres⟩ := turnK_ok htn
        have E3 : EnvR C K r2 H2 (wipeE en own) (wipe σ own) := (E1.mono (fx2.trans fx3)).wipe xg own
        refine bind_ok hb qx E3 fun zs E4 => ⟨by rw [wipe_put hsub, wipe_wipe], ?_⟩
        refine ⟨bb, s2, r2, e1, _, R3, E4, hif, fun r4 H4 b4 fx4 R4 q4 => ?_⟩
        subst q4
        rcases hres with ⟨rfl, y, s4, z, s5, hke, hve, rfl⟩ | ⟨rfl, rfl⟩
        · refine iteT ⟨bb, s3, r4, e1, _, R4, E4.mono fx4, hke, fun r5 H5 wy fx5 R5 q5 => ?_⟩
          refine ⟨bb, s4, r5, e1, _, R5, (E4.mono fx4).mono fx5, hve, fun r6 H6 wz fx6 R6 q6 => ?_⟩
          have fx36 := fx3.trans (fx4.trans (fx5.trans fx6))
          obtain ⟨hD6, dn6⟩ := fx36.frm Dd _ hDc (fun _ z => by cases z) dn2
          have t6 := RepKV.mono fx36.pre fx36.ext _ _ t2
          have ev3 : (bnd (if (kOk y && sizeOk (acc.2.length + 1)) = true then dcL sr.at (turnK P tg ifs ke ve (wipeE en own)) m (i + 1) (epK acc.1 acc.2 y, putK acc.2 y z) s5 else none) fun ys s3 => ret (D.ref s3.M.length) (s3.alloc (.dct ys.1 ys.2))) = some u := ev2
          split at ev3
          · rename_i hck
            rw [Bool.and_eq_true] at hck
            have hlen := sizeOk_le hck.2
            have q5' := Rep.mono fx6.pre fx6.ext _ _ q5
            refine ⟨r6, y, acc.1, xs, acc.2, hck.1, q5', hD6, hnd, t6, by omega, fun ua va ra rb => ⟨m, Nat.lt_succ_self _, s5, r6, (epK acc.1 acc.2 y, putK acc.2 y z), stA xs (kD y) ua va, (fx2.trans fx36).at hD hD6 ow_dct, R6.apart dn6 hD6 rfl, ?_, ?_, ?_, dn6, ev3⟩⟩
            · rw [← t6.ep]
              exact upd_same
            · unfold stA
              cases hfi : fiA xs (kD y) with
              | some j =>
                have e : (xs.modify j fun x => (x.1, x.2.1, va)).map (·.1) = xs.map (·.1) := by
                  refine (map_modify' (fun x : DE => x.1) (fun x => (x.1, x.2.1, va)) id (fun _ => rfl) xs j).trans ?_
                  simp
                rw [e]
                exact hnd
              | none =>
                rw [List.map_append, List.nodup_append]
                refine ⟨hnd, by simp, fun a ha b hb' => ?_⟩
                have e : b = kD y := by simpa using hb'
                rw [e]
                exact fun zz => fiA_no hfi (zz ▸ ha)
            · have ex := Ext.upd (u := DctO C.w Dd (epA acc.1 xs (kD y)) (stA xs (kD y) ua va)) hD6 (ow_dct (ω := C.w)).stb
              exact (RepKV.mono List.prefix_rfl ex _ _ t6).put hck.1 ra (Rep.mono List.prefix_rfl ex _ _ q5') rb (Rep.mono List.prefix_rfl ex _ _ q6)
          · cases ev3
        · refine iteF ⟨m, Nat.lt_succ_self _, s3, r4, acc, xs, fx2.trans (fx3.trans fx4), R4, ((fx3.trans fx4).frm Dd _ hDc (fun _ z => by cases z) dn2).1, hnd, RepKV.mono (fx3.trans fx4).pre (fx3.trans fx4).ext _ _ t2, ((fx3.trans fx4).frm Dd _ hDc (fun _ z => by cases z) dn2).2, ev2⟩
theorem st_dc {tg : Tg} {k : ITk} {src ifs : List CE} {ke ve : CE} {own : List Nat} {ownp : List (Str × Nat)} {et it kx vx : Expr} {eifs : List Expr} {scope : Scope} (hw : C.w = X.w) (hu : X.A.units + 128 < cLine) (xg : C.xg = none) (hc : X.calm = true) (hN : X.N.Nodup) (hi : PI X et it (tI X.K C P cur W k src)) (ok : BlkOk X.N X.env.scope scope ownp) (ho : ownp.map (·.2) = own)
    (hsub : ∀ i ∈ tg.slots, i ∈ own) (hg : BlkP X scope fun Y => PG Y et (gTg X.K tg)) (ht : BlkP X scope fun Y => PTs Y eifs (tIf X.K C P ifs)) (hk : BlkP X scope fun Y => PE Y kx (tE X.K C P none W0 ke)) (he : BlkP X scope fun Y => PE Y vx (tE X.K C P none W0 ve)) (hs : ∀ x, foldedSetIterable it X.env x = pure x) :
    PE X (.DictComp kx vx [⟨et, it, eifs, 0⟩] scope pos) (tE X.K C P cur W (.dc tg k src ifs ke ve own)) := by
  refine PE.imp (pe_dx hu hc hN hi ok hg ht hk he hs) fun σ H Q h => ?_
  rw [ho, ← hw]
  exact dc_read xg hsub h
end
end PV
set_option Elab.async false
set_option linter.all false
set_option autoImplicit false
set_option maxRecDepth 100000
set_option maxHeartbeats 4000000
namespace PV
open PySem PySem.Spec PyProof.Rows L2
def turnO (P : Ev) (tg : Tg) (ifs : List CE) (tg2 : Tg) (k2 : ITk) (sr2 ifs2 : List CE) (elt : CE) (own2 : List Nat) (e : Env) {b : List MO} (d : D) (acc : List D) (s2 : HS b) : R b (List D) := noX (match tg.bind d e with
  | none => none
  | some e1 => bnd (evIf P none ifs e1 s2) fun t s3 => if t then bnd (bnd (bnd (evL P none sr2 e1 s3) fun xs s4 => srcR k2 xs s4) fun r2 s4 => lcL r2.at (turnC P tg2 ifs2 elt (wipeE e1 own2)) P.fu 0 acc s4)
      fun ys s5 => if decide (ys.length ≤ P.fu) then ret ys s5 else none else ret acc s3)
section
variable {P : Ev} {C : Cn} {cur : Cur} {W : WX} {X : Cx} {pos : Pos}
theorem Rel.join {ω : World} {K : PySem.W.Frag} {r : RA} {M : List MO} {H : Hp} {p : Addr} {xs : List D} {vs : List V} (R : Rel ω K r M H) (n : (p, true) ∉ r) (h : H p = some (.lst vs)) (t : RepL K r H xs vs) : Rel ω K (r ++ [(p, true)]) (M ++ [.lst true xs]) H := by
  have nin : ∀ {j : Nat} {a : Addr}, r[j]? = some (a, true) → a ≠ p := fun {j a} q z => n (by
    rw [← z]
    exact List.mem_of_getElem? q)
  refine ⟨by simp [R.len], fun j l a q1 q2 => ?_, fun j o a w e q => ?_⟩
  · rcases snoc_at q1 with ⟨h1, z1⟩ | ⟨h1, z1⟩
    · rcases snoc_at q2 with ⟨h2, z2⟩ | ⟨h2, z2⟩
      · exact R.nd j l a z1 z2
      · cases z2
        exact absurd rfl (nin z1)
    · rcases snoc_at q2 with ⟨h2, z2⟩ | ⟨h2, z2⟩
      · cases z1
        exact absurd rfl (nin z2)
      · omega
  · rcases snoc_at e with ⟨h1, z1⟩ | ⟨h1, z1⟩
    · rcases snoc_at q with ⟨h2, z2⟩ | ⟨h2, z2⟩
      · obtain ⟨k1, k2⟩ := R.obj j o a w z1 z2
        exact ⟨k1, k2.mono (List.prefix_append _ _) (Ext.refl _) fun _ => rfl⟩
      · rw [R.len] at h2
        omega
    · rcases snoc_at q with ⟨h2, z2⟩ | ⟨h2, z2⟩
      · rw [R.len] at h2
        omega
      · cases z2
        subst z1
        exact ⟨rfl, vs, h, RepL.mono (List.prefix_append _ _) (Ext.refl _) xs vs t⟩
theorem EnvR.apart {K : PySem.W.Frag} {r : RA} {H : Hp} {e : Env} {σ : Sl} {p : Addr} {xs : List V} {u : HO} (E : EnvR C K r H e σ) (h : H p = some (.lst xs)) : EnvR C K r (L2.upd H p u) e σ := by
  have hx : Ext H (L2.upd H p u) := Ext.upd h rfl
  refine ⟨E.1, fun i d q => ?_, fun i a dd fs q => ⟨(E.2.2.1 i a dd fs q).1, (E.2.2.1 i a dd fs q).2.mono List.prefix_rfl hx⟩, fun b hb => ?_⟩
  · obtain ⟨v, e1, e2⟩ := E.2.1 i d q
    exact ⟨v, e1, Rep.mono List.prefix_rfl hx d v e2⟩
  · obtain ⟨n1, ps, e1, t1, c1⟩ := E.2.2.2 b hb
    have ne : ∀ {a : Addr} {w : HO}, H a = some w → (∀ l, w ≠ .lst l) → a ≠ p := fun {a w} q z k => by
      rw [k, h] at q
      exact z _ (Option.some.inj q).symm
    refine ⟨n1, ps, by rw [upd_ne (ne e1 fun l z => by cases z)]; exact e1, t1, fun pos cv z => ?_⟩
    obtain ⟨c, k1, k2, k3⟩ := c1 pos cv z
    exact ⟨c, k1, by rw [upd_ne (ne k2 fun l z => by cases z)]; exact k2, k3⟩
theorem evE_lc2 {tg tg2 : Tg} {k k2 : ITk} {sr ifs sr2 ifs2 : List CE} {elt : CE} {own own2 : List Nat} {b : List MO} {e : Env} {s : HS b} : evE P cur (.lc2 tg k sr ifs tg2 k2 sr2 ifs2 elt own own2) e s =
    bnd (bnd (evL P cur sr e s) fun xs s1 => srcR k xs s1) fun r s1 => bnd (lc2L r.at (turnO P tg ifs tg2 k2 sr2 ifs2 elt own2 (wipeE e own)) P.fu 0 [] s1) fun ys s2 => ret (.ref s2.M.length) (s2.alloc (.lst true ys)) := rfl
theorem turnO_ok {tg tg2 : Tg} {k2 : ITk} {ifs sr2 ifs2 : List CE} {elt : CE} {own2 : List Nat} {e : Env} {b : List MO} {d : D} {acc : List D} {s2 : HS b} {o : Out b (List D)} (h : turnO P tg ifs tg2 k2 sr2 ifs2 elt own2 e d acc s2 = some o) : ∃ e1 t s3, tg.bind d e = some e1 ∧ evIf P none ifs e1 s2 = some (.ok t s3) ∧
    ((t = true ∧ ∃ r2 s4 ys s5, (bnd (evL P none sr2 e1 s3) fun xs s4 => srcR k2 xs s4) = some (.ok r2 s4) ∧ lcL r2.at (turnC P tg2 ifs2 elt (wipeE e1 own2)) P.fu 0 acc s4 = some (.ok ys s5) ∧ ys.length ≤ P.fu ∧ o = .ok ys s5) ∨ (t = false ∧ o = .ok acc s3)) := by
  obtain ⟨a, s, rfl, h'⟩ := noX_some h
  split at h'
  · cases h'
  · rename_i e1 he
    obtain ⟨t, s3, h1, h2⟩ := bnd_some h'
    refine ⟨e1, t, s3, he, h1, ?_⟩
    cases t with
    | false =>
      cases h2
      exact .inr ⟨rfl, rfl⟩
    | true =>
      simp only [if_true] at h2
      obtain ⟨ys, s5, h3, h4⟩ := bnd_some h2
      obtain ⟨r2, s4, h5, h6⟩ := bnd_some h3
      split at h4
      · rename_i hl
        cases h4
        exact .inl ⟨rfl, r2, s4, _, _, h5, h6, of_decide_eq_true hl, rfl⟩
      · cases h4
theorem lcL_len {b : List MO} {at_ : Nat → HS b → Option (Option D)} {turn : D → HS b → R b (Option D)} {ys : List D} {s' : HS b} : ∀ {n i : Nat} {acc : List D} {s : HS b}, lcL at_ turn n i acc s = some (.ok ys s') → acc.length ≤ ys.length
  | 0, _, _, _, h => by cases h
  | n + 1, i, acc, s, h => by
    simp only [lcL] at h
    split at h
    · cases h
    · cases h
      exact Nat.le_refl _
    · obtain ⟨r, s1, h1, h2⟩ := bnd_some h
      cases r with
      | none => exact lcL_len h2
      | some y =>
        have := lcL_len h2
        simp at this
        omega
theorem lc2_read {K : PySem.W.Frag} (xg : C.xg = none) {tg tg2 : Tg} {k k2 : ITk} {src ifs src2 ifs2 : List CE} {elt : CE} {own own2 : List Nat} (fu : P.fu ≤ sizeLine) (hsub : ∀ i ∈ tg.slots, i ∈ own) (hsub2 : ∀ i ∈ tg2.slots, i ∈ own2) {σ : Sl} {H : Hp} {Q : VK}
    (h : tE K C P cur W (.lc2 tg k src ifs tg2 k2 src2 ifs2 elt own own2) σ H Q) :
    tLc2 (tI K C P cur W k src) (gTg K tg) (tIf K C P ifs) (tI K C P none W0 k2 src2) (gTg K tg2) (tIf K C P ifs2) (tE K C P none W0 elt) own own2 σ H Q := by
  obtain ⟨bb, s, rr, en, u, R, E, ev, post⟩ := h
  rw [show (fun {b_1 : List MO} e (s : HS b_1) => evE P cur (.lc2 tg k src ifs tg2 k2 src2 ifs2 elt own own2) e s) en s = _ from evE_lc2] at ev
  refine tN.seq (ev := fun e s => bnd (evL P cur src e s) fun xs s1 => srcR k xs s1) (RP := fun r H sr J => JOk C.w K J sr r H) R E ev post fun sr s1 r1 H1 J fx1 ev1 R1 E1 jok post1 => ?_
  intro Dd hD
  have dn : (Dd, true) ∉ r1 := fun z => by
    obtain ⟨i, hi⟩ := List.getElem?_of_mem z
    obtain ⟨u0, hu, _⟩ := R1.live hi
    rw [hD] at hu
    cases hu
  have fx0 : Fx C.tb r1 H1 r1 (upd H1 Dd (.lst [])) := Fx.new hD
  let St : List D → HS bb → RA → Hp → Prop := fun acc s2 r2 Hc => ∃ vs : List V, Fx C.tb r1 H1 r2 Hc ∧ Rel C.w K r2 s2.M Hc ∧ Hc Dd = some (.lst vs) ∧ RepL K r2 Hc acc vs ∧ (Dd, true) ∉ r2
  let Wo : Nat → Nat → Hp → Prop := fun i m Hc => ∃ (s2 : HS bb) (r2 : RA) (acc : List D), St acc s2 r2 Hc ∧
      (bnd (lc2L sr.at (turnO P tg ifs tg2 k2 src2 ifs2 elt own2 (wipeE en own)) m i acc s2) fun ys s3 => ret (D.ref s3.M.length) (s3.alloc (.lst true ys))) = some u
  refine ⟨Wo, ⟨P.fu, s1, r1, [], ⟨[], fx0, R1.new hD, upd_same, rfl, dn⟩, ev1⟩, ?_⟩
  rintro i m Hc ⟨s2, r2, acc, ⟨vs, fx2, R2, hDc, t2, dn2⟩, ev2⟩
  cases m with
  | zero => cases ev2
  | succ m =>
    simp only [lc2L] at ev2
    split at ev2
    · cases ev2
    · rename_i hat
      cases ev2
      obtain ⟨hstop, _⟩ := jok bb s2 r2 Hc i fx2.gx R2
      refine .inl ⟨hstop hat, ?_⟩
      exact post1 _ _ _ (fx2.more hD hDc ow_lst) (R2.join dn2 hDc t2) ⟨Dd, true, by rw [← R2.len]; simp, rfl⟩
    · rename_i d hat
      obtain ⟨_, hgo⟩ := jok bb s2 r2 Hc i fx2.gx R2
      obtain ⟨go, yld⟩ := hgo d hat
      refine .inr ⟨go, fun H' => ∃ m', m' < m + 1 ∧ Wo (i + 1) m' H', fun H' h => h, fun x H2 hy => ?_⟩
      obtain ⟨same, qx⟩ := yld x H2 hy
      have fx3 : Fx C.tb r2 Hc r2 H2 := Fx.same same
      have R3 : Rel C.w K r2 s2.M H2 := R2.same same
      cases htn : turnO P tg ifs tg2 k2 src2 ifs2 elt own2 (wipeE en own) d acc s2 with
      | none => rw [htn] at ev2; cases ev2
      | some ot =>
        rw [htn] at ev2
        obtain ⟨e1, kk, s3, hb, hif, hres⟩ := turnO_ok htn
        have E3 : EnvR C K r2 H2 (wipeE en own) (wipe σ own) := (E1.mono (fx2.trans fx3)).wipe xg own
        refine bind_ok hb qx E3 fun xs E4 => ⟨by rw [wipe_put hsub, wipe_wipe], ?_⟩
        refine ⟨bb, s2, r2, e1, _, R3, E4, hif, fun r4 H4 b4 fx4 R4 q4 => ?_⟩
        subst q4
        have E5 := E4.mono fx4
        have fx34 := fx3.trans fx4
        obtain ⟨hD4, dn4⟩ := fx34.frm Dd _ hDc (fun _ z => by cases z) dn2
        have t4 := RepL.mono fx34.pre fx34.ext _ _ t2
        rcases hres with ⟨rfl, r2i, s4, ys, s5, hsr, hlc, hys, rfl⟩ | ⟨rfl, rfl⟩
        · refine iteT ⟨bb, s3, r4, e1, _, R4, E5, hsr, fun r6 H6 J1 fx6 R6 jok1 => ?_⟩
          obtain ⟨hD6, dn6⟩ := fx6.frm Dd _ hD4 (fun _ z => by cases z) dn4
          have fx26 := (fx2.trans fx34).trans fx6
          let Wi : Nat → Nat → Hp → Prop := fun j n Hj => ∃ (s7 : HS bb) (r7 : RA) (acc7 : List D), (Gx r6 H6 r7 Hj ∧ EnvR C K r7 Hj e1 (tg.put x xs (wipe σ own)) ∧ St acc7 s7 r7 Hj) ∧ lcL r2i.at (turnC P tg2 ifs2 elt (wipeE e1 own2)) n j acc7 s7 = some (.ok ys s5)
          refine ⟨Wi, ⟨P.fu, s4, r6, acc, ⟨Gx.refl _ _, E5.mono fx6, vs, fx26, R6, hD6, RepL.mono fx6.pre fx6.ext _ _ t4, dn6⟩, hlc⟩, ?_⟩
          rintro j n Hj ⟨s7, r7, acc7, ⟨fxj, E7, vs7, fx7, R7, hD7, t7, dn7⟩, ev7⟩
          cases n with
          | zero => cases ev7
          | succ n =>
            simp only [lcL] at ev7
            split at ev7
            · cases ev7
            · rename_i hat7
              cases ev7
              exact .inl ⟨(jok1 bb s5 r7 Hj j fxj R7).1 hat7, m, Nat.lt_succ_self _, s5, r7, ys, ⟨vs7, fx7, R7, hD7, t7, dn7⟩, ev2⟩
            · rename_i d7 hat7
              obtain ⟨go7, yld7⟩ := (jok1 bb s7 r7 Hj j fxj R7).2 d7 hat7
              refine .inr ⟨go7, fun H' => ∃ n', n' < n + 1 ∧ Wi (j + 1) n' H', fun H' h => h, fun x7 H8 hy8 => ?_⟩
              obtain ⟨same8, qx8⟩ := yld7 x7 H8 hy8
              have fx8 : Fx C.tb r7 Hj r7 H8 := Fx.same same8
              have R8 : Rel C.w K r7 s7.M H8 := R7.same same8
              obtain ⟨rt, s9, htn7, ev8⟩ := bnd_some ev7
              obtain ⟨e8, kk8, s8, hb8, hif8, hres8⟩ := turnC_ok htn7
              have E8 : EnvR C K r7 H8 (wipeE e1 own2) (wipe (tg.put x xs (wipe σ own)) own2) := (E7.mono fx8).wipe xg own2
              refine bind_ok hb8 qx8 E8 fun xs8 E9 => ⟨by rw [wipe_put hsub2, wipe_wipe], ?_⟩
              refine ⟨bb, s7, r7, e8, _, R8, E9, hif8, fun r10 H10 b10 fx10 R10 q10 => ?_⟩
              subst q10
              rcases hres8 with ⟨rfl, y, s11, hel, hot⟩ | ⟨rfl, hot⟩
              · cases hot
                refine iteT ⟨bb, _, r10, e8, _, R10, E9.mono fx10, hel, fun r11 H11 w fx11 R11 q11 => ?_⟩
                have fx8b := fx8.trans (fx10.trans fx11)
                obtain ⟨hD11, dn11⟩ := fx8b.frm Dd _ hD7 (fun _ z => by cases z) dn7
                have hl : acc7.length + 1 ≤ ys.length := by
                  have q := lcL_len ev8
                  simpa using q
                refine ⟨vs7, hD11, ?_, n, Nat.lt_succ_self _, s9, r11, acc7 ++ [y], ⟨?_, ?_, vs7 ++ [w], ?_, ?_, upd_same, ?_, dn11⟩, ev8⟩
                · rw [RepL.length t7]
                  omega
                · exact fxj.trans ⟨fx8b.pre, fx8b.ext.trans (Ext.upd hD11 rfl)⟩
                · exact (E7.mono fx8b).apart hD11
                · exact (fx7.trans fx8b).at hD hD11 ow_lst
                · exact R11.apart dn11 hD11 rfl
                · exact RepL.app (RepL.mono fx8b.pre (fx8b.ext.trans (Ext.upd hD11 rfl)) _ _ t7) ⟨w, [], rfl, Rep.mono List.prefix_rfl (Ext.upd hD11 rfl) _ _ q11, rfl⟩
              · cases hot
                have fx8b := fx8.trans fx10
                obtain ⟨hD11, dn11⟩ := fx8b.frm Dd _ hD7 (fun _ z => by cases z) dn7
                exact iteF ⟨n, Nat.lt_succ_self _, _, r10, acc7, ⟨fxj.trans fx8b.gx, E7.mono fx8b, vs7, fx7.trans fx8b, R10, hD11, RepL.mono fx8b.pre fx8b.ext _ _ t7, dn11⟩, ev8⟩
        · exact iteF ⟨m, Nat.lt_succ_self _, s3, r4, acc, ⟨vs, fx2.trans fx34, R4, hD4, t4, dn4⟩, ev2⟩
theorem st_lc2 {tg tg2 : Tg} {k k2 : ITk} {src ifs src2 ifs2 : List CE} {elt : CE} {own own2 : List Nat} {ownp : List (Str × Nat)} {et it el et2 it2 : Expr} {eifs eifs2 : List Expr} {scope : Scope} (xg : C.xg = none) (hc : X.calm = true) (hN : X.N.Nodup) (fu : P.fu ≤ sizeLine) (hi : PI X et it (tI X.K C P cur W k src))
    (ok : BlkOk X.N X.env.scope scope ownp) (ho : ownp.map (·.2) = own) (hsub : ∀ i ∈ tg.slots, i ∈ own) (hsub2 : ∀ i ∈ tg2.slots, i ∈ own2) (hv : ∀ i ∈ own2, i ∈ own)
    (hg : ∀ (s : Shared) (H : Hp) (c : Addr) (cl : List (Str × Addr)) (fp : List Addr), PG (X.blk s H scope (compEnvC scope cl c X.env) fp) et (gTg X.K tg))
    (ht : ∀ (s : Shared) (H : Hp) (c : Addr) (cl : List (Str × Addr)) (fp : List Addr), PTs (X.blk s H scope (compEnvC scope cl c X.env) fp) eifs (tIf X.K C P ifs))
    (hi2 : ∀ (s : Shared) (H : Hp) (c : Addr) (cl : List (Str × Addr)) (fp : List Addr), PI (X.blk s H scope (compEnvC scope cl c X.env) fp) et2 it2 (tI X.K C P none W0 k2 src2))
    (hg2 : ∀ (s : Shared) (H : Hp) (c : Addr) (cl : List (Str × Addr)) (fp : List Addr), PG (X.blk s H scope (compEnvC scope cl c X.env) fp) et2 (gTg X.K tg2))
    (ht2 : ∀ (s : Shared) (H : Hp) (c : Addr) (cl : List (Str × Addr)) (fp : List Addr), PTs (X.blk s H scope (compEnvC scope cl c X.env) fp) eifs2 (tIf X.K C P ifs2))
    (he : ∀ (s : Shared) (H : Hp) (c : Addr) (cl : List (Str × Addr)) (fp : List Addr), PE (X.blk s H scope (compEnvC scope cl c X.env) fp) el (tE X.K C P none W0 elt)) (hs : ∀ x, foldedSetIterable it X.env x = pure x) (hs2 : ∀ env x, foldedSetIterable it2 env x = pure x) :
    PE X (.ListComp el [⟨et, it, eifs, 0⟩, ⟨et2, it2, eifs2, 0⟩] scope pos) (tE X.K C P cur W (.lc2 tg k src ifs tg2 k2 src2 ifs2 elt own own2)) := by
  subst ho
  exact PE.imp (pe_lc2 hc hN hi ok hv hg ht hi2 hg2 ht2 he hs hs2) fun σ H Q h => lc2_read xg fu hsub hsub2 h
end
end PV
set_option Elab.async false
set_option linter.all false
set_option autoImplicit false
set_option maxRecDepth 100000
set_option maxHeartbeats 4000000
namespace PV
open PySem PySem.Spec PyProof.Rows L2
def inn (X : Cx) : Cx := { X with A := X.A.in1.in1, xe := fun _ _ => False }
section
variable {X : Cx} {pins : List (Addr × Obj)} {σ : Sl} {H H' : Hp} {s : Shared}
theorem inn_ok (ok : X.Ok) : (inn X).Ok := ⟨ok.mod, ok.kind, ok.glob, ok.blt, ok.above, ok.inj, ok.has, ok.cab, ok.hd, ok.frames, ok.stk, ok.exf, ok.bs, ok.bsz, ok.noex, ok.exfs, ok.funs, ok.frf⟩
theorem inn_in (I : Inv X pins σ H s) : Inv (inn X) pins σ H s := ⟨inn_ok I.ok, I.os, I.bare, I.base, I.loc, I.cell, I.free, I.freeC, I.pin, I.hok, I.len⟩
theorem inn_out {ok : X.Ok} (I : Inv (inn X) pins σ H s) : Inv X pins σ H s := ⟨ok, I.os, I.bare, I.base, I.loc, I.cell, I.free, I.freeC, I.pin, I.hok, I.len⟩
def Own (X : Cx) (pins : List (Addr × Obj)) (H : Hp) (h : Heap) (a : Addr) (its : Array Value) (e : Nat) : Prop := FpOk X pins H a ∧ h.get? a = some (seqObj "list" its e)
theorem Own.pin {a : Addr} {its : Array Value} {e : Nat} (o : Own X pins H s.heap a its e) : s.heap.get? a = some (seqObj "list" its e) ∧ H a = none ∧ a ≠ X.env.locals ∧ a ∉ X.fs ∧ ∀ v, (seqObj "list" its e).data ≠ .cell v :=
  ⟨o.2, o.1.1, o.1.2.1, o.1.2.2.1, fun v z => by cases z⟩
theorem Own.turn {a : Addr} {its : Array Value} {e : Nat} (I : Inv X pins σ H s) (o : Own X pins H s.heap a its e) (h' : Heap) (tk : Nat) (k : ∀ b u, b ≠ a → s.heap.get? b = some u → h'.get? b = some u) : Inv X pins σ H { s with heap := h', toks := tk } :=
  I.turned k o.1.1 o.1.2.1 o.1.2.2.2.1 o.1.2.2.2.2.1 o.1.2.2.2.2.2
theorem same_k {h : Heap} {a b : Addr} {o : Obj} {g : Obj → Obj} (n : b ≠ a) (e : h.get? b = some o) : (h.update a g).get? b = some o := ((Heap.SameBut.update h a g).2 b n).trans e
structure KPh (X : Cx) (pins : List (Addr × Obj)) (σ : Sl) (J : Nat → Hp → List V → Prop) (a kS : Addr) (e1 j : Nat) (s : Shared) : Prop where
  ex : ∃ (H : Hp) (ks : List V) (kA : Array Value) (e : Nat), Inv X pins σ H s ∧ Own X pins H s.heap kS kA e ∧ Own X pins H s.heap a #[] e1 ∧ Vals ks kA.toList ∧ ks.length = j ∧ J j H ks
theorem keys_go {J : Nat → Hp → List V → Prop} {a kS : Addr} {e1 : Nat} {f : Value} {vs : List Value} {Q : PUnit → Shared → Prop} {E : Value → Shared → Prop} (hka : kS ≠ a) (hZ : vs.length ≤ sizeLine) (hs : KPh X pins σ J a kS e1 0 s)
    (turn : ∀ (j : Nat) (u : Value) (pn : List (Addr × Obj)) (s : Shared) (H : Hp) (ks : List V), vs[j]? = some u → (∀ p ∈ pins, p ∈ pn) → Inv (inn X) pn σ H s → J j H ks → wpAny (model X.prog X.w) X.A.in1.in1 (PySem.call f [u]) (EP (inn X) pn σ fun k H' => J (j + 1) H' (ks ++ [k])) (fun _ _ => False) s)
    (done : ∀ s', KPh X pins σ J a kS e1 vs.length s' → Q ⟨⟩ s') (body : Value → PUnit → Sem (ForInStep PUnit))
    (hb : ∀ x u, body x u = (do
      match ← (PySem.call f [x]).attempt with
      | .ok k => do
        Builtin.List.listUpdate (.ref kS) (·.push k)
        pure (ForInStep.yield ⟨⟩)
      | .error e => do
        rule "list.sort.key-raised"
        let made ← Builtin.List.listItems (.ref kS)
        Builtin.List.listUpdate (.ref kS) fun _ => #[]
        letGo made.toList.reverse [e]
        Builtin.List.listUpdate (.ref a) fun _ => vs.toArray
        throw e)) : wpAny (model X.prog X.w) X.A.in1.in1 (forIn vs PUnit.unit body) Q E s := by
  refine ksk_fold (fun i s' => i ≤ vs.length ∧ KPh X pins σ J a kS e1 i s') vs 0 s ⟨Nat.zero_le _, hs⟩ ?_ fun s' h => done s' (by simpa using h.2)
  rintro j u s' hu ⟨hj, H, ks, kA, e, I, ok, oa, rv, hl, hJ⟩
  simp only [Nat.zero_add] at hl hJ ⊢
  have hj' : j < vs.length := (List.getElem?_eq_some_iff.mp hu).1
  rw [hb]
  have Ip : Inv (inn X) (pins ++ [(kS, seqObj "list" kA e), (a, seqObj "list" #[] e1)]) σ H s' := inn_in (I.pins_of fun p hp => by
    rcases List.mem_append.mp hp with z | z
    · exact I.pin p (List.mem_append_right _ z)
    · rcases List.mem_cons.mp z with rfl | z
      · exact ok.pin
      · cases List.mem_singleton.mp z
        exact oa.pin)
  refine wpAny_bind (wpAny_attempt (wpAny_mono (turn j u _ s' H ks hu (fun p hp => List.mem_append_left _ hp) Ip hJ) (fun k s2 hq => ?_) fun _ _ z => z.elim))
  obtain ⟨kv, H2, I2, rk, hJ2⟩ := hq
  have p1 := I2.pin (kS, seqObj "list" kA e) (by simp [inn])
  have p2 := I2.pin (a, seqObj "list" #[] e1) (by simp [inn])
  have I3 : Inv X pins σ H2 s2 := (inn_out (ok := I.ok) I2).unpinned
  have hsz : kA.size = j := by
    have q := rv.length
    simp only [Array.length_toList] at q
    omega
  refine wpAny_bind (listUpdate_at p1.1 rfl ?_ (by rw [hsz]; omega) (by rw [Array.size_push, hsz]; omega))
  refine wpAny_pure ⟨rfl, by omega, H2, ks ++ [kv], kA.push k, _, ?_, ⟨⟨p1.2.1, ok.1.2⟩, get?_update_seq p1.1 (·.push k)⟩, ⟨⟨p2.2.1, oa.1.2⟩, same_k hka.symm p2.1⟩, ?_, by simp [hl], hJ2⟩
  · exact Own.turn (s := s2) (a := kS) (its := kA) (e := e) I3 ⟨⟨p1.2.1, ok.1.2⟩, p1.1⟩ _ _ fun b o n q => same_k n q
  · have q : (kA.push k).toList = kA.toList ++ [k] := by simp
    rw [q]
    exact Vals.append rv (.cons rk .nil)
theorem vals_get : ∀ {xs : List V} {vs : List Value} {j : Nat} {x : V} {u : Value}, Vals xs vs → xs[j]? = some x → vs[j]? = some u → RelV x u
  | _, _, 0, _, _, .cons h _, e1, e2 => by
    simp at e1 e2
    subst e1 e2
    exact h
  | _, _, j + 1, _, _, .cons _ t, e1, e2 => vals_get (j := j) t (by simpa using e1) (by simpa using e2)
theorem each_vals {bs : List (V × PyData)} {vs : List Value} : PySem.W.EachIs (fun v (b : V × PyData) => RelV b.1 v) vs bs → Vals (bs.map Prod.fst) vs := fun h => by
  induction h with
  | nil => exact .nil
  | cons h1 _ ih => exact .cons h1 ih
theorem vals_each {kz : List PyData} : ∀ {xs : List V} {vs : List Value} {ds : List PyData}, Vals xs vs → ds.length = xs.length → PySem.W.EachIs (fun v (b : V × PyData) => RelV b.1 v) vs (xs.zip ds)
  | [], _, [], .nil, _ => .nil
  | x :: xs, _, d :: ds, .cons h t, hl => .cons h (vals_each (kz := kz) t (by simpa using hl))
  | [], _, _ :: _, .nil, hl => by simp at hl
  | _ :: _, _, [], .cons _ _, hl => by simp at hl
theorem dp_each (I : Inv X pins σ H s) : ∀ {ks : List V} {kz : List PyData} {us : List Value}, DpAll X.K H ks kz → Vals ks us → PySem.W.EachIs (fun v k => ∃ as, Reads s.heap v k as) us kz
  | _, _, _, .nil, .nil => .nil
  | _, _, _, .cons h t, .cons r q => .cons (Dp.reads I _ _ _ h r) (dp_each I t q)
theorem dp_len : ∀ {K : PySem.W.Frag} {H : Hp} {ks : List V} {kz : List PyData}, DpAll K H ks kz → kz.length = ks.length
  | _, _, _, _, .nil => rfl
  | _, _, _, _, .cons _ t => by simp [dp_len t]
theorem map_snd {α : Type} : ∀ {xs : List α} {kz : List PyData}, kz.length = xs.length → (xs.zip kz).map Prod.snd = kz
  | [], [], _ => rfl
  | _ :: xs, _ :: kz, h => by simp [map_snd (xs := xs) (kz := kz) (by simpa using h)]
  | [], _ :: _, h => by simp at h
  | _ :: _, [], h => by simp at h
theorem sorted_by {l q : Addr} {xs : List V} {Q : VK} (I : Inv X pins σ H s) (hl : SqL X.K H l xs) (J : Nat → Hp → List V → Prop) (h0 : J 0 H [])
    (turn : ∀ (j : Nat) (x : V) (u : Value) (pn : List (Addr × Obj)) (s' : Shared) (H' : Hp) (ks : List V), xs[j]? = some x → RelV x u → (∀ p ∈ pins, p ∈ pn) → Inv (inn X) pn σ H' s' → J j H' ks → wpAny (model X.prog X.w) X.A.in1.in1 (PySem.call (.ref q) [u]) (EP (inn X) pn σ fun k H2 => J (j + 1) H2 (ks ++ [k])) (fun _ _ => False) s')
    (fin : ∀ H' ks, J xs.length H' ks → ∃ kz, DpAll X.K H' ks kz ∧ kz.length = xs.length ∧ PySem.W.AllAlike kz ∧ PySem.W.Sortable kz ∧ (∀ d, d ∈ kz → X.A.units + 2 + d.depth < cLine) ∧ ∀ p, H' p = none → Q (.ref p) (upd H' p (.lst (inOrder xs kz)))) :
    wpAny (model X.prog X.w) X.A (PySem.call (.builtin "sorted") [.ref l] [(Str.ofString "key", .ref q)]) (EP X pins σ Q) X.xe s := by
  obtain ⟨vs, rv, hls, hz⟩ := I.list hl
  have hlv : vs.length = xs.length := rv.length.symm
  have hZ : vs.length ≤ sizeLine := by rw [hlv]; exact hz
  refine PySem.W.sorted_of_sort hls.isList hZ (ksk_s1 _ _) (fun x => ksk_l1 _ _) fun E' => ?_
  rw [ksk_t1]
  have I1 : Inv X pins σ H { s with heap := PySem.W.copyHeap s.heap vs } := I.kept (t' := s.toks) fun b o e => PySem.W.copyHeap_old e
  have oa1 : Own X pins H (PySem.W.copyHeap s.heap vs) (s.heap.objs.size + 1) vs.toArray 0 := ⟨I.fpOk (Nat.le_succ _) (I.hok.fresh (Nat.le_succ _)), PySem.W.copyHeap_at s.heap vs⟩
  generalize hh1 : PySem.W.copyHeap s.heap vs = h1 at I1 oa1 ⊢
  generalize hadr : s.heap.objs.size + 1 = a at oa1 ⊢
  unfold ksk_tree
  refine wpAny_bind (listItems_at oa1.2 rfl ?_)
  refine wpAny_bind (listUpdate_at oa1.2 rfl ?_ (by rw [List.size_toArray]; exact hZ) (Nat.zero_le _))
  have e2 := get?_update_seq oa1.2 fun _ => (#[] : Array Value)
  refine wpAny_bind (seqEpoch_at e2 rfl ?_)
  have I2 : Inv X pins σ H { s with heap := h1.update a (Obj.mapSeq fun _ => (#[] : Array Value)) } := Own.turn (s := { s with heap := h1 }) I1 oa1 _ s.toks fun b o n q => same_k n q
  generalize hh2 : h1.update a (Obj.mapSeq fun _ => (#[] : Array Value)) = h2 at I2 e2 ⊢
  refine wpAny_bind (wpAny_newTuple ?_ (by show vs.length ≤ _; exact hZ))
  refine wpAny_bind (wpAny_newList ?_ (Nat.zero_le _))
  refine wpAny_holding ?_
  have I3 : Inv X pins σ H { s with heap := h2.push (seqObj "tuple" vs.toArray 0) } := I2.kept (t' := s.toks) fun b o e => Heap.get?_push_of_some _ e
  have I4 : Inv X pins σ H { s with heap := (h2.push (seqObj "tuple" vs.toArray 0)).push (seqObj "list" #[] 0) } := I3.kept (t' := s.toks) fun b o e => Heap.get?_push_of_some _ e
  have okS : FpOk X pins H (h2.push (seqObj "tuple" vs.toArray 0)).objs.size := I3.fpOk (Nat.le_refl _) (I3.hok.fresh (Nat.le_refl _))
  have ek : ((h2.push (seqObj "tuple" vs.toArray 0)).push (seqObj "list" #[] 0)).get? (h2.push (seqObj "tuple" vs.toArray 0)).objs.size = some (seqObj "list" #[] 0) := Heap.get?_push_size _ rfl
  have ea : ((h2.push (seqObj "tuple" vs.toArray 0)).push (seqObj "list" #[] 0)).get? a = some _ := Heap.get?_push_of_some _ (Heap.get?_push_of_some _ e2)
  have hka : (h2.push (seqObj "tuple" vs.toArray 0)).objs.size ≠ a := Nat.ne_of_gt (Heap.lt_size (Heap.get?_push_of_some _ e2))
  generalize hks : (h2.push (seqObj "tuple" vs.toArray 0)).objs.size = kS at okS ek hka ⊢
  unfold ksk_rest
  refine wpAny_bind (wpAny_rule ?_)
  rw [List.forIn_toArray]
  refine wpAny_bind (keys_go (J := J) (a := a) (kS := kS) (f := .ref q) (vs := vs) hka hZ ⟨H, [], #[], 0, I4, ⟨okS, ek⟩, ⟨oa1.1, ea⟩, .nil, rfl, h0⟩ (fun j u pn s' H' ks hu hp I' hJ => ?_) (fun s' hs' => ?_) _ fun x u => rfl)
  · obtain ⟨x, hx, rx⟩ : ∃ x, xs[j]? = some x ∧ RelV x u := by
      have hj := (List.getElem?_eq_some_iff.mp hu).1
      exact ⟨xs[j]'(by omega), by simp, vals_get rv (by simp) hu⟩
    exact turn j x u pn s' H' ks hx rx hp I' hJ
  · obtain ⟨H', ks, kA, e, I', ok, oa, rk, hlk, hJ⟩ := hs'.ex
    rw [hlv] at hJ
    obtain ⟨kz, hd, hkl, hal, hsk, hu, hq⟩ := fin H' ks hJ
    have hsz : kA.size = vs.length := by
      have q := rk.length
      simp only [Array.length_toList] at q
      omega
    refine wpAny_bind (listItems_at ok.2 rfl ?_)
    let hid : Hp := upd (fun _ => none) kS (.lst [])
    refine PySem.W.keyH_end (κ := PySem.W.dataKind s'.heap kz) (h₁ := hidT s'.heap hid) (fun b o _ z => (of_hidT z).1) ?_ ok.2 oa.2 hka (PySem.W.SortsAt.data (dp_each I' hd rk) hal hsk fun d hd => hu d hd) hsz hZ fun h3 tk3 c k3 n3 => ⟨rfl, ?_⟩
    · cases z : (hidT s'.heap hid).get? kS with
      | none => rfl
      | some o =>
        have q := (of_hidT z).2
        have q2 : hid kS = some (.lst []) := upd_same
        rw [q2] at q
        cases q
    · have keep : ∀ b o, b ≠ a → b ≠ kS → s'.heap.get? b = some o → h3.get? b = some o := fun b o n1 n2 z => k3 b o n1 (hidT_get z (by show upd (fun _ => none) kS (.lst []) b = none; rw [upd_ne n2]))
      have eo : PySem.W.EachIs (fun v (b : V × PyData) => RelV b.1 v) (PySem.W.sortVals (PySem.W.dataKind s'.heap kz) false kA.toList vs) ((xs.zip kz).mergeSort (PySem.W.dataLe false Prod.snd)) := by
        refine PySem.W.keyedOut_each Prod.snd ?_ (vals_each (kz := kz) rv hkl)
        rw [map_snd hkl]
        exact ⟨s'.heap, kA.toList, hal, rfl, dp_each I' hd rk⟩
      have rv3 : Vals (inOrder xs kz) _ := each_vals eo
      have ln : (inOrder xs kz).length = xs.length := by simp [inOrder, hkl]
      refine ⟨.ref a, upd H' a (.lst (inOrder xs kz)), ?_, rfl, hq a oa.1.1⟩
      have nH : ∀ b u, H' b = some u → b ≠ a ∧ b ≠ kS := fun b u z => ⟨ne_of_none z oa.1.1, ne_of_none z ok.1.1⟩
      refine I'.step (g' := s'.gens) (d' := s'.drawn) (ch := [a, kS]) (fun b hb => ?_) (fun b o _ _ hc z _ => keep b o (fun y => hc (by simp [y])) (fun y => hc (by simp [y])) z) (fun b o _ _ hc z _ => ⟨o.slots, keep b o (fun y => hc (by simp [y])) (fun y => hc (by simp [y])) z⟩)
        (fun b o hc z n => by rw [upd_ne (fun y => hc (by simp [y]))]; exact n) (fun b o hc z => ⟨o, keep b o (fun y => hc (by simp [y])) (fun y => hc (by simp [y])) z⟩) (fun b xs z => by rw [upd_ne (nH b _ z).1]; exact z) (fun b o u z => by rw [upd_ne (nH b _ z).1]; exact z) (fun b ps z => ⟨#[], by rw [upd_ne (nH b _ z).1]; simpa using z⟩) (fun m hm => ?_) (fun b u z => ?_) I'.bare
      · rcases List.mem_cons.mp hb with rfl | hb
        · exact ⟨oa.1.2.2.2.1, oa.1.2.1, oa.1.2.2.2.2.1, oa.1.2.2.2.2.2⟩
        · cases List.mem_singleton.mp hb
          exact ⟨ok.1.2.2.2.1, ok.1.2.1, ok.1.2.2.2.2.1, ok.1.2.2.2.2.2⟩
      · obtain ⟨o, es, ep, ho, r⟩ := hm
        exact ⟨o, es, ep, keep _ o (Ne.symm oa.1.2.1) (Ne.symm ok.1.2.1) ho, r⟩
      · by_cases hb : b = a
        · subst hb
          rw [upd_same] at z
          cases z
          exact ⟨by rw [ln]; exact hz, _, c, rv3, n3⟩
        · rw [upd_ne hb] at z
          refine (I'.hok b u z).stay (fun d v hd y => ?_) (fun d y => by rw [upd_ne (nH d _ y).1]; exact y) fun d xs y => by rw [upd_ne (nH d _ y).1]; exact y
          rcases hd with rfl | hd
          · exact keep _ v (nH _ u z).1 (nH _ u z).2 y
          · exact keep d v (nH d _ hd).1 (nH d _ hd).2 y
theorem alike_of {ds : List PyData} (h : alikeB ds = true) : PySem.W.AllAlike ds := fun d hd e he => List.all_eq_true.mp (List.all_eq_true.mp h d hd) e he
theorem sort_of {ds : List PyData} (h : sortB ds = true) : PySem.W.Sortable ds := by
  unfold sortB at h
  rcases Bool.or_eq_true_iff.mp h with h | h
  · refine .inl fun d hd => ?_
    have q := List.all_eq_true.mp h d hd
    cases d <;> try (cases q; done)
    rename_i xs
    cases xs with
    | nil => cases q
    | cons x r => exact ⟨x, r, rfl⟩
  · refine .inr fun d hd => ?_
    have q := List.all_eq_true.mp h d hd
    cases d <;> first | (cases q; done) | exact ⟨fun z => (by cases z), fun xs z => (by cases z)⟩
theorem mapL_len {bb : List MO} {g : D → HS bb → R bb D} : ∀ {xs ks : List D} {s s1 : HS bb}, mapL g xs s = some (.ok ks s1) → ks.length = xs.length
  | [], _, _, _, h => by cases h; rfl
  | x :: xs, _, _, _, h => by
    simp only [mapL] at h
    obtain ⟨y, s2, _, h2⟩ := bnd_some h
    obtain ⟨ys, s3, h3, h4⟩ := bnd_some h2
    cases h4
    simp [mapL_len h3]
theorem map_merge {α β : Type} (f : α → β) (r : α → α → Bool) (q : β → β → Bool) (h : ∀ a b, r a b = q (f a) (f b)) (l : List α) : (l.mergeSort r).map f = (l.map f).mergeSort q :=
  List.map_mergeSort fun a _ b _ => h a b
theorem repL_of {K : PySem.W.Frag} {r : RA} {H : Hp} : ∀ {l : List (D × V × PyData)}, (∀ t ∈ l, Rep K r H t.1 t.2.1) → RepL K r H (l.map fun t => t.1) (l.map fun t => t.2.1)
  | [], _ => rfl
  | t :: l, h => ⟨t.2.1, l.map fun t => t.2.1, rfl, h t List.mem_cons_self, repL_of fun u hu => h u (List.mem_cons_of_mem _ hu)⟩
theorem zips {K : PySem.W.Frag} {r : RA} {H : Hp} : ∀ {xs : List D} {vs : List V} {kz : List PyData}, RepL K r H xs vs → (xs.zip (vs.zip kz)).map (fun t => (t.1, t.2.2)) = xs.zip kz ∧ (xs.zip (vs.zip kz)).map (fun t => (t.2.1, t.2.2)) = vs.zip kz ∧ ∀ t ∈ xs.zip (vs.zip kz), Rep K r H t.1 t.2.1
  | [], vs, kz, h => by
    rw [show vs = [] from h]
    simp
  | x :: xs, vs, [], h => by
    obtain ⟨v, vr, rfl, _, _⟩ := h
    simp
  | x :: xs, vs, k :: kz, h => by
    obtain ⟨v, vr, rfl, h1, h2⟩ := h
    obtain ⟨a, b, c⟩ := zips (kz := kz) h2
    refine ⟨by simpa using a, by simpa using b, fun t ht => ?_⟩
    have ht' : t ∈ (x, v, k) :: xs.zip (vr.zip kz) := ht
    rcases List.mem_cons.mp ht' with rfl | ht'
    · exact h1
    · exact c t ht'
theorem inOrder_rep {K : PySem.W.Frag} {r : RA} {H : Hp} {xs : List D} {vs : List V} {kz : List PyData} (h : RepL K r H xs vs) : RepL K r H (inOrder xs kz) (inOrder vs kz) := by
  obtain ⟨a, b, c⟩ := zips (kz := kz) h
  have e1 : inOrder xs kz = ((xs.zip (vs.zip kz)).mergeSort (PySem.W.dataLe false fun t => t.2.2)).map fun t => t.1 := by
    unfold inOrder
    generalize hl : xs.zip (vs.zip kz) = l at a ⊢
    rw [← a, ← map_merge (fun t : D × V × PyData => (t.1, t.2.2)) (PySem.W.dataLe false fun t => t.2.2) (PySem.W.dataLe false Prod.snd) (fun _ _ => rfl), List.map_map]
    rfl
  have e2 : inOrder vs kz = ((xs.zip (vs.zip kz)).mergeSort (PySem.W.dataLe false fun t => t.2.2)).map fun t => t.2.1 := by
    unfold inOrder
    generalize hl : xs.zip (vs.zip kz) = l at b ⊢
    rw [← b, ← map_merge (fun t : D × V × PyData => (t.2.1, t.2.2)) (PySem.W.dataLe false fun t => t.2.2) (PySem.W.dataLe false Prod.snd) (fun _ _ => rfl), List.map_map]
    rfl
  rw [e1, e2]
  exact repL_of fun t ht => c t (List.mem_mergeSort.mp ht)
def KeyT (X : Cx) (C : Cn) (pins : List (Addr × Obj)) (σ : Sl) (r0 : RA) (H0 : Hp) (q : Addr) {bb : List MO} (g : D → HS bb → R bb D) : Prop :=
  ∀ (pn : List (Addr × Obj)) (s' : Shared) (H' : Hp) (u : Value) (v : V) (d : D) (sm : HS bb) (r : RA) (y : D) (s1 : HS bb) (Q : VK), (∀ p ∈ pins, p ∈ pn) → Inv (inn X) pn σ H' s' → Fx C.tb r0 H0 r H' → Rel C.w X.K r sm.M H' → TabsR C.tb r H' → Rep X.K r H' d v → RelV v u → g d sm = some (.ok y s1) →
    (∀ r2 H2 w, Fx C.tb r H' r2 H2 → Rel C.w X.K r2 s1.M H2 → Rep X.K r2 H2 y w → Q w H2) → wpAny (model X.prog X.w) X.A.in1.in1 (PySem.call (.ref q) [u]) (EP (inn X) pn σ Q) (fun _ _ => False) s'
theorem srt_run {C : Cn} {W : WX} {bb : List MO} {s0 : HS bb} {r0 : RA} {x : D} {v : V} {u : Value} {q : Addr} {g : D → HS bb → R bb D} {o : Out bb D} {Q : VK} (I : Inv X pins σ H s) (R : Rel C.w X.K r0 s0.M H) (T : TabsR C.tb r0 H) (hx : Rep X.K r0 H x v) (rv : RelV v u) (un : X.A.units + 200 < cLine)
    (ev : srtE g x s0 = some o) (post : PostG (RD X.K) X.K C W σ r0 H o Q) (kt : KeyT X C pins σ r0 H q g) :
    wpAny (model X.prog X.w) X.A (PySem.call (.builtin "sorted") [u] [(Str.ofString "key", .ref q)]) (EP X pins σ Q) X.xe s := by
  unfold srtE at ev
  cases x <;> try (cases ev; done)
  rename_i p
  obtain ⟨a, w, ha, rfl⟩ := hx
  obtain rfl : u = Value.ref a := rv
  simp only at ev
  split at ev
  · rename_i wr xs hm
    obtain ⟨vs, hsq, hvs⟩ := (R.ob hm ha).sq
    cases hk : noX (mapL g xs s0) with
    | none => rw [hk] at ev; cases ev
    | some o1 =>
      obtain ⟨ks, s1, rfl, hk2⟩ := noX_some hk
      rw [hk] at ev
      simp only [bnd] at ev
      split at ev
      · rename_i kz hkz
        split at ev
        · rename_i hc
          simp only [Bool.and_eq_true] at hc
          cases ev
          refine sorted_by (J := fun j H' kv => ∃ (sm : HS bb) (r : RA) (kd rest : List D), Fx C.tb r0 H r H' ∧ Rel C.w X.K r sm.M H' ∧ TabsR C.tb r H' ∧ RepL X.K r H' kd kv ∧ RepL X.K r H' xs vs ∧ mapL g (xs.drop j) sm = some (.ok rest s1) ∧ kd ++ rest = ks) I hsq
            ⟨s0, r0, [], ks, Fx.refl _ _, R, T, rfl, hvs, by simpa using hk2, rfl⟩ ?_ ?_
          · rintro j x u pn s' H' kv hxj rx hp I' ⟨sm, r, kd, rest, fx, R1, T1, hkd, hvs1, hmp, hks⟩
            obtain ⟨d, hd, hdr⟩ : ∃ d, xs[j]? = some d ∧ Rep X.K r H' d x := by
              have hj := (List.getElem?_eq_some_iff.mp hxj).1
              have hj2 : j < xs.length := by rw [← RepL.length hvs1]; exact hj
              obtain ⟨v, e1, e2⟩ := hvs1.get (x := xs[j]) (List.getElem?_eq_getElem hj2)
              rw [hxj] at e1
              cases e1
              exact ⟨xs[j], List.getElem?_eq_getElem hj2, e2⟩
            have hdrop : xs.drop j = d :: xs.drop (j + 1) := by
              obtain ⟨hj2, e⟩ := List.getElem?_eq_some_iff.mp hd
              rw [← e]
              exact (List.drop_eq_getElem_cons hj2)
            rw [hdrop] at hmp
            simp only [mapL] at hmp
            obtain ⟨y, s2, hy, hmp2⟩ := bnd_some hmp
            obtain ⟨ys, s3, hys, hret⟩ := bnd_some hmp2
            cases hret
            refine kt pn s' H' u x d sm r y s2 _ hp I' fx R1 T1 hdr rx hy fun r2 H2 w fx2 R2 q2 => ?_
            refine ⟨s2, r2, kd ++ [y], ys, fx.trans fx2, R2, fx2.tab T1, RepL.app (RepL.mono fx2.pre fx2.ext _ _ hkd) ⟨w, [], rfl, q2, rfl⟩, RepL.mono fx2.pre fx2.ext _ _ hvs1, hys, by rw [← hks]; simp⟩
          · rintro H' kv ⟨sm, r, kd, rest, fx, R1, T1, hkd, hvs1, hmp, hks⟩
            have hlv : vs.length = xs.length := RepL.length hvs
            rw [hlv, List.drop_length] at hmp
            cases hmp
            have hks' : kd = ks := by simpa using hks
            subst hks'
            have dp := deepWL_ok (deepR_ok R1 8) kd kv kz hkz hkd
            have ln : kz.length = kv.length := dp_len dp
            have lk : kd.length = xs.length := mapL_len hk2
            refine ⟨kz, dp, by rw [ln, RepL.length hkd, lk, hlv], alike_of hc.1.1, sort_of hc.1.2, fun d hd => ?_, fun p hp => ?_⟩
            · have q := of_decide_eq_true (List.all_eq_true.mp hc.2 d hd)
              omega
            · have hro : RepL X.K r H' (inOrder xs kz) (inOrder vs kz) := inOrder_rep hvs1
              have T2 : Then C.tb C.w X.K r H' (.ref _) (_ ++ [.lst true (inOrder xs kz)]) Q := fun r2 H2 w f2 => post r2 H2 w (fx.trans f2)
              exact T2.lst R1 hro p hp
        · cases ev
      · cases ev
  · cases ev
end
end PV
set_option Elab.async false
set_option linter.all false
set_option autoImplicit false
set_option maxRecDepth 100000
set_option maxHeartbeats 4000000
namespace PV
open PySem PySem.Spec PyProof.Rows L2
section
variable {P : Ev} {C : Cn} {cur : Cur} {W : WX} {X : Cx} {a : CE} {v : Expr} {pos : Pos}
def Arg1 (X : Cx) (C : Cn) (W : WX) (σ : Sl) {bb : List MO} (g : D → HS bb → R bb D) (u : Out bb D) (Q : VK) (vs : List V) (H1 : Hp) : Prop :=
  ∃ (x : D) (s1 : HS bb) (r1 : RA) (v1 : V), vs = [v1] ∧ srtE g x s1 = some u ∧ Rel C.w X.K r1 s1.M H1 ∧ TabsR C.tb r1 H1 ∧ Rep X.K r1 H1 x v1 ∧ PostG (RD X.K) X.K C W σ r1 H1 u Q
theorem st_srtF {f j : Nat} {fa : Addr} {fd : FuncData} {ps : List Str} {y : Str} {p kp kpos : Pos} (F : FnG X.prog X.w X.K X.mg X.base j fa fd ps (spOf X.K C P.cf f)) (hr : Room (j + 2) X.A) (hgd : X.A.guards = some []) (un : X.A.units + 200 < cLine)
    (hg : Gl X "sorted") (hm : X.mg "sorted" = none) (hgy : Gl X y) (hmy : X.mg y = some (.ref fa)) (hb : Binds X.K fd ps []) (hdy : (y == ("__debug__" : Str)) = false) (ha : PE X v (tE X.K C P cur W a)) (hs : starEach [v] X.env = [(false, eval v X.env)]) :
    PE X (.Call (.Name "sorted" p) [v] [⟨some "key", .Name y kp, kpos⟩] pos) (tE X.K C P cur W (.srtF f a)) := by
  refine ⟨fun pins s σ H Q I ⟨bb, s0, rr, en, u, R, E, ev, post⟩ => ?_⟩
  simp only [evE] at ev
  have h1 : tCons (tE X.K C P cur W a) tNil σ H (Arg1 X C W σ (fun y s2 => P.cf f [y] s2) u Q) :=
    tN.seq (ev := fun e s => evE P cur a e s) (RP := RD X.K) R E ev post fun x s1 r1 H1 v1 fx1 ev1 R1 E1 q1 post1 => ⟨x, s1, r1, v1, rfl, ev1, R1, E1.2.2.2, q1, post1⟩
  have hp : PA X [v] (tCons (tE X.K C P cur W a) tNil) := pa_cons ha pa_nil hs
  have hk : PK X [⟨some ("key" : Str), .Name y kp, kpos⟩] (tCons (tC (.ref fa)) tNil) := pk_cons (pe_glob hgy hmy rfl hdy) pk_nil
  have hbk : backTo pos (starEach [v] X.env) = (false, eval v X.env) :: backTo pos (starEach [] X.env) := by rw [hs]; rfl
  refine wpAny_Call_Name_kw (ld_blt (u := .builtin "sorted") I hg hm (by decide +kernel) ?_)
  refine PyProof.Rows.callWith_kw (thn (hp.run pos pins s σ H _ I h1) fun us s1 ⟨vs, H1, I1, r1, q1⟩ => thn (hk.run pos pins s1 σ H1 (fun zs H2 => zs = [.ref fa] ∧ Arg1 X C W σ (fun y s2 => P.cf f [y] s2) u Q vs H2) I1 ⟨rfl, q1⟩) fun ws s2 ⟨zs, H2, I2, r2, ez, q2⟩ => ?_) hbk (by rw [hbk]; rfl) rfl rfl
  subst ez
  obtain ⟨x, sm, r1', v1, rfl, ev1, R1, T1, rx, post1⟩ := q2
  obtain ⟨u1, rfl, ru⟩ := vals1 r1
  obtain ⟨u2, rfl, ru2⟩ := vals1 r2
  obtain rfl : u2 = Value.ref fa := ru2
  refine srt_run (C := C) (W := W) I2 R1 T1 rx ru un ev1 post1 ?_
  intro pn s' H' u' v' d sm' r y' s1' Q' hpn I' fx R' T' hd rv hgd' hq
  exact run_g (X := inn X) (W := W0) (sp := spOf X.K C P.cf f) F (hr.in1.in1) hgd hb takes0 I' (.cons rv .nil) ⟨bb, sm', r, [d], .ok y' s1', R', T', ⟨v', [], rfl, hd, rfl⟩, hgd', hq⟩
theorem Rel.noCode {ω : World} {K : PySem.W.Frag} {r : RA} {M : List MO} {H : Hp} {c : Addr} {q : Str} (R : Rel ω K r M H) (h : H c = some (LamX.CodeO c q)) : (c, true) ∉ r := fun z => by
  obtain ⟨i, hi⟩ := List.getElem?_of_mem z
  obtain ⟨o, e⟩ := R.objOf hi
  obtain ⟨hw, ho⟩ := R.obj i o c true e hi
  cases o with
  | lst w xs =>
    cases w with
    | true =>
      obtain ⟨vs, e1, _⟩ := ho
      rw [h] at e1
      cases e1
    | false => cases hw
  | dct ep kvs =>
    obtain ⟨_, e1, _⟩ := ho
    rw [h] at e1
    exact dct_code (Option.some.inj e1).symm rfl
  | ins c fs =>
    obtain ⟨_, _, e1, _⟩ := ho
    rw [h] at e1
    cases e1
theorem fx_lam {τ : TBT} {ω : World} {K : PySem.W.Frag} {r : RA} {M : List MO} {H H' : Hp} (e : LamX.ExtN H H') (R : Rel ω K r M H) (T : LamX.Tabs τ H') : Fx τ r H r H' ∧ Rel ω K r M H' := by
  have hx : Ext H H' := fun a u hs h => e a u h fun ps z => by
    rw [z] at hs
    cases hs
  have R' : Rel ω K r M H' := ⟨R.len, R.nd, fun i o a w h1 h2 => ⟨(R.obj i o a w h1 h2).1, (R.ob h1 h2).mono List.prefix_rfl hx fun wr => by
    have ho := R.ob h1 h2
    cases o with
    | lst w xs =>
      cases w with
      | true =>
        obtain ⟨vs, e1, _⟩ := ho
        rw [e1, e a _ e1 fun ps z => by cases z]
      | false => cases wr
    | dct ep kvs =>
      obtain ⟨_, e1, _⟩ := ho
      rw [e1, e a _ e1 fun ps z => by cases z]
    | ins c fs =>
      obtain ⟨_, _, e1, _⟩ := ho
      rw [e1, e a _ e1 fun ps z => by cases z]⟩⟩
  refine ⟨⟨List.prefix_rfl, hx, fun a u h z n => ⟨e a u h z, n⟩, fun t p hp => ⟨(t p hp).1, ?_⟩⟩, R'⟩
  obtain ⟨ps, h1, h2, h3⟩ := T p hp
  refine ⟨ps, h1, h2, fun pos cv z => ?_⟩
  obtain ⟨c, k1, k2⟩ := h3 pos cv z
  exact ⟨c, k1, k2, R'.noCode k2⟩
theorem lam_scope {y : Str} {sc : Scope} (h : lamB y sc = true) : FnScope [y] [y] sc := by
  unfold lamB at h
  simp only [Bool.and_eq_true, Bool.or_eq_true, Bool.not_eq_true', decide_eq_true_eq, List.all_eq_true] at h
  obtain ⟨⟨⟨⟨h1, h2⟩, h3⟩, h4⟩, h5⟩ := h
  refine ⟨h1, h2, h3, by simp, rfl, fun x hx => ?_, fun p hp z => ?_⟩
  · cases List.mem_singleton.mp hx
    exact .inl h4
  · rcases h5 p hp with ⟨_, k⟩ | k
    · rw [k] at z; cases z
    · rw [k] at z; cases z
theorem clo_nil {cells : List (Str × Addr)} : ∀ {names : List (Str × NameKind)}, (∀ y ∈ names, y.2 ≠ .free) → cloFrom cells names [] = []
  | [], _ => rfl
  | (n, k) :: r, h => by
    have hk : (k == NameKind.free) = false := by
      have := h (n, k) List.mem_cons_self
      cases k <;> first | rfl | exact absurd rfl this
    unfold cloFrom
    rw [hk]
    exact clo_nil fun y hy => h y (List.mem_cons_of_mem _ hy)
abbrev lamP (y : Str) (yp : Pos) : Arguments := ⟨[], [⟨y, none, yp⟩], none, [], [], none, []⟩
theorem lam_bind {y : Str} {yp : Pos} {name qual : Str} {body : Expr} {sc : Scope} {pm cdv ct : Value} {u : Value} : bindArgs (PySem.W.kla_fn name qual (lamP y yp) body sc [] pm cdv ct) ⟨[u], []⟩ = pure [(y, u)] := by
  simp [bindArgs, seqItems?, notAStandIn]
theorem lam_env {K : PySem.W.Frag} {r : RA} {H : Hp} {y : Str} {d : D} {v : V} (hx : C.xg = none) (T : TabsR C.tb r H) (h : Rep K r H d v) : EnvR C K r H [some d] (L2.start [y] [v]) := by
  refine ⟨rfl, fun i e q => ?_, fun _ _ _ _ z => (by rw [hx] at z; cases z), T⟩
  cases i with
  | zero =>
    cases q
    exact ⟨v, rfl, h⟩
  | succ i => cases q
theorem lam_run {k : Nat} {A : Around} {outer : List PySem.Env} {s : Shared} {H : Hp} {f c' : Addr} {qual y : Str} {yp : Pos} {lb : Expr} {lsc : Scope} {pm ctv u : Value} {v : V} {Q : VK} {t : TE} (hr : Room (k + 1) A) (e0 : Env0 X.prog X.w X.K X.mg X.base A outer s H)
    (hf : s.heap.get? f = some (PySem.W.kla_obj "<lambda>" qual (lamP y yp) lb lsc [] pm c' ctv)) (hc : H c' = some (LamX.CodeO c' qual)) (S : FnScope [y] [y] lsc) (rv : RelV v u)
    (hb : PE (cxOf (L2.CX X.prog X.w) X.prog X.w X.K X.mg X.base [y] qual lsc f (.ref c') A outer s H fun _ _ _ => False) lb t) (ht : t (L2.start [y] [v]) H Q) :
    codeAny (model X.prog X.w) A (.call (.ref f) ⟨[u], []⟩) (CR (L2.CX X.prog X.w) outer X.prog X.w H s Q fun _ _ _ => False) s := by
  obtain ⟨⟨oc, vs, t0, hoc, hdc, hvc⟩, _, _⟩ := e0.hok c' _ hc
  refine PySem.W.kla_callFunE hr.depth hf rfl S.co S.gen rfl ⟨c', oc, vs, t0, rfl, hoc, hdc, hvc⟩ ?_
  rw [lam_bind]
  refine wpAny_pure (wpAny_newFunctionEnv_cells S.kind (fun p hp => ?_) fun env he s1 x => ?_)
  · cases List.mem_singleton.mp hp
    rcases S.par y (by simp) with q | q
    · exact .inl q
    · exact .inr ⟨q, PySem.W.cellsFrom_some _ _ _ (.inl q)⟩
  · subst he
    have I : Inv (cxOf (L2.CX X.prog X.w) X.prog X.w X.K X.mg X.base [y] qual lsc f (.ref c') A outer s H fun _ _ _ => False) [] (L2.start [y] [v]) H s1 := inv_start S hr.hd e0 rfl (.cons rv .nil) x
    have hin : ∀ b o, X.base.get? b = some o → s.heap.get? b = some o := fun b o e => (e0.bs b o e).1
    refine ⟨(e0.mod.nolimit.keeps hin).keeps x.toInCall.keep, ?_⟩
    refine PySem.W.kla_codeExpr (wpAny_mono (hb.run [] s1 (L2.start [y] [v]) H Q I ht) (fun w s' hq => ?_) fun e s' hq => hq)
    obtain ⟨w', H', J, r', q⟩ := hq
    exact ⟨w', H', J.os, J.bare, J.base, J.hok, r', q⟩
theorem st_srtL {k : Nat} {body : CE} {lb : Expr} {lsc : Scope} {y : Str} {yp p kpos lpos : Pos} {cc tp : Addr} (hr : Room (k + 3) X.A) (un : X.A.units + 200 < cLine) (xg : C.xg = none)
    (TB : LamX.TabB X.base X.mg cc tp) (hcode : X.env.code = .ref cc) (hmem : (tp, X.env.qual ++ "<lambda>") ∈ C.tb) (hu : ∀ t, t ∈ C.tb → t.1 = tp → t.2 = X.env.qual ++ "<lambda>") (hl : lamB y lsc = true)
    (hg : Gl X "sorted") (hm : X.mg "sorted" = none) (ha : PE X v (tE X.K C P cur W a)) (hs : starEach [v] X.env = [(false, eval v X.env)])
    (hb : ∀ (A : Around) (outer : List PySem.Env) (s : Shared) (H : Hp) (f c' : Addr), Room k (A.deeper (envOfC (X.env.qual ++ "<lambda>") lsc s.heap.objs.size f (.ref c'))) → A.guards = X.A.guards →
      PE (cxOf (L2.CX X.prog X.w) X.prog X.w X.K X.mg X.base [y] (X.env.qual ++ "<lambda>") lsc f (.ref c') A outer s H fun _ _ _ => False) lb (tE X.K C P none W0 body)) :
    PE X (.Call (.Name "sorted" p) [v] [⟨some "key", .Lambda (lamP y yp) lb lsc lpos, kpos⟩] pos) (tE X.K C P cur W (.srtL body a)) := by
  refine ⟨fun pins s σ H Q I ⟨bb, s0, rr, en, u, R, E, ev, post⟩ => ?_⟩
  simp only [evE] at ev
  have h1 : tCons (tE X.K C P cur W a) tNil σ H (Arg1 X C W σ (fun y s2 => evE P none body [some y] s2) u Q) :=
    tN.seq (ev := fun e s => evE P cur a e s) (RP := RD X.K) R E ev post fun x s1 r1 H1 v1 fx1 ev1 R1 E1 q1 post1 => ⟨x, s1, r1, v1, rfl, ev1, R1, E1.2.2.2, q1, post1⟩
  have hp : PA X [v] (tCons (tE X.K C P cur W a) tNil) := pa_cons ha pa_nil hs
  have hbk : backTo pos (starEach [v] X.env) = (false, eval v X.env) :: backTo pos (starEach [] X.env) := by rw [hs]; rfl
  have S := lam_scope hl
  refine wpAny_Call_Name_kw (ld_blt (u := .builtin "sorted") I hg hm (by decide +kernel) ?_)
  refine PyProof.Rows.callWith_kw (thn (hp.run pos pins s σ H _ I h1) fun us s1 ⟨vs, H1, I1, r1, q1⟩ => ?_) hbk (by rw [hbk]; rfl) rfl rfl
  obtain ⟨x, sm, r1', v1, rfl, ev1, R1, T1, rx, post1⟩ := q1
  obtain ⟨u1, rfl, ru⟩ := vals1 r1
  refine PyProof.Rows.kws_cons (LamX.lam_make2 (T := C.tb) I1 TB hcode hmem hu (fun p hp => ?_) rfl (fun y hy e => absurd e (S.nofree y hy)) fun f c' pm ctv H2 s2 I2 hE hT hf hfn hfr hc => PyProof.Rows.kws_nil ?_)
  · obtain ⟨_, ps, e1, e2, e3⟩ := T1 p hp
    refine ⟨ps, e1, e2, fun pos cv z => ?_⟩
    obtain ⟨c, k1, k2, _⟩ := e3 pos cv z
    exact ⟨c, k1, k2⟩
  · obtain ⟨fx, R2⟩ := fx_lam hE R1 hT
    rw [clo_nil S.nofree] at hf
    have hloc : f ≠ X.env.locals ∧ f ∉ X.fs := by
      refine ⟨fun z => ?_, fun z => hfr ?_⟩
      · obtain ⟨m, ⟨o, es, ep, ho, hd, _⟩, _⟩ := I2.loc
        rw [← z, hf] at ho
        cases ho
        cases hd
      · rcases I2.ok.stk with e | ⟨e, e2⟩
        · rw [e]; exact z
        · rw [e]
          have z' : f ∈ X.outer.filterMap (·.frame) := z
          show f ∈ (X.env :: X.outer).filterMap (·.frame)
          rw [List.filterMap_cons, e2]
          exact List.mem_cons_of_mem _ z'
    have I3 : Inv X (pins ++ [(f, PySem.W.kla_obj "<lambda>" (X.env.qual ++ "<lambda>") (lamP y yp) lb lsc [] pm c' ctv)]) σ H2 s2 := I2.pins_of fun p hp => by
      rcases List.mem_append.mp hp with z | z
      · exact I2.pin p (List.mem_append_right _ z)
      · cases List.mem_singleton.mp z
        exact ⟨hf, hfn, hloc.1, hloc.2, fun v z => by cases z⟩
    refine wpAny_mono (srt_run (C := C) (W := W) I3 R2 (fx.tab T1) (Rep.mono fx.pre fx.ext _ _ rx) ru un ev1 (post1.mono fx) ?_) (fun w s3 ⟨w', H3, I4, r4, q4⟩ => ⟨w', H3, I4.unpinned, r4, q4⟩) fun _ _ z => z
    intro pn s' H' u' v' d sm' r y' s1' Q' hpn I' fx' R' T' hd rv hgd' hq
    have pf := I'.pin (f, PySem.W.kla_obj "<lambda>" (X.env.qual ++ "<lambda>") (lamP y yp) lb lsc [] pm c' ctv) (List.mem_append_right _ (hpn _ (by simp)))
    have hc' : H' c' = some (LamX.CodeO c' (X.env.qual ++ "<lambda>")) := (fx'.frm c' _ hc (fun ps => LamX.codeO_ne ps) (R2.noCode hc)).1
    have hri : Room (k + 1) (inn X).A := hr.in1.in1
    have rc := lam_run (X := inn X) (k := k) (t := tE X.K C P none W0 body) (Q := Q') hri I'.env0 pf.1 hc' S rv (hb _ _ s' H' f c' (hri.deeper _) rfl) ⟨bb, sm', r, [some d], .ok y' s1', R', lam_env xg T' hd, hgd', hq⟩
    refine wpAny_call (codeAny_mono rc fun r s' hq => ?_)
    match r, hq with
    | .error u, hq =>
      obtain ⟨_, _, _, _, _, _, _, _, _, _, _, _, z⟩ := hq
      exact z
    | .ok (.ret u), hq => exact I'.after hq
    | .ok .next, hq => exact False.elim hq
    | .ok .brk, hq => exact False.elim hq
    | .ok .cont, hq => exact False.elim hq
end
end PV
set_option Elab.async false
set_option linter.all false
set_option autoImplicit false
set_option maxRecDepth 100000
set_option maxHeartbeats 4000000
namespace PV
open PySem PySem.Spec PyProof.Rows L2
theorem boot_bi (g : BI) : bootBuiltins g.nm = some g.val := by
  cases g with
  | isi t => exact (by decide +kernel : bootBuiltins ("isinstance" : Str) = some (.builtin "isinstance"))
  | _ => decide +kernel
theorem bi_nm (g : BI) : g.nm ≠ "__name__" ∧ (g.nm == ("__debug__" : Str)) = false := by
  cases g with
  | isi t => exact (by decide +kernel : ("isinstance" : Str) ≠ "__name__" ∧ (("isinstance" : Str) == ("__debug__" : Str)) = false)
  | _ => exact ⟨by decide +kernel, by decide +kernel⟩
def chkB (T : Tb) (hot : Bool) (N : List Str) (sc : Scope) (g : BI) (es : List CE) (args : List Expr) : Bool := match g with
  | .isi t => (match args with
    | [a, .Name y _] => decide (y = (t.nm : Str)) && glB sc y && T.fr.contains y && chkL T hot N sc es [a]
    | _ => false)
  | _ => !args.isEmpty && chkL T hot N sc es args
theorem chk_bi {T : Tb} {hot : Bool} {N : List Str} {sc : Scope} {g : BI} {es : List CE} {args : List Expr} {x : Str} {p p1 : Pos} :
    chkE T hot N sc (.bi g es) (.Call (.Name x p1) args [] p) = ((!hot || g.hot) && decide (x = g.nm) && glB sc x && T.fr.contains x && chkB T hot N sc g es args) := by
  cases g <;> first
    | rfl
    | (rcases args with _ | ⟨a, _ | ⟨y, _ | ⟨z, r⟩⟩⟩ <;> first | rfl | (cases y <;> rfl))
theorem chk_lc {T : Tb} {hot : Bool} {N : List Str} {sc : Scope} {tg : Tg} {k : ITk} {src ifs : List CE} {elt : CE} {own : List Nat} {t it el : Expr} {fs : List Expr} {scope : Scope} {p : Pos} :
    chkE T hot N sc (.lc tg k src ifs elt own) (.ListComp el [⟨t, it, fs, 0⟩] scope p) = (!hot && blkC N sc scope (ownP N own) && decide ((ownP N own).map (·.2) = own) && tg.slots.all (own.contains ·) && chkTg false N (relS scope sc) tg t && decide (fs.length ≤ 1) && chkL T hot N (relS scope sc) ifs fs && chkE T hot N (relS scope sc) elt el && chkI T hot N sc k src t it) := by
  cases k <;> first
    | rfl
    | (rcases src with _ | ⟨c, _ | ⟨d, r⟩⟩ <;> rfl)
theorem chk_lc2 {T : Tb} {hot : Bool} {N : List Str} {sc : Scope} {tg tg2 : Tg} {k k2 : ITk} {src ifs src2 ifs2 : List CE} {elt : CE} {own own2 : List Nat} {t it el t2 it2 : Expr} {fs fs2 : List Expr} {scope : Scope} {p : Pos} : chkE T hot N sc (.lc2 tg k src ifs tg2 k2 src2 ifs2 elt own own2) (.ListComp el [⟨t, it, fs, 0⟩, ⟨t2, it2, fs2, 0⟩] scope p) =
    (!hot && blkC N sc scope (ownP N own) && decide ((ownP N own).map (·.2) = own) && tg.slots.all (own.contains ·) && chkTg false N (relS scope sc) tg t && decide (fs.length ≤ 1) && chkL T hot N (relS scope sc) ifs fs && chkE T hot N (relS scope sc) elt el &&
      tg2.slots.all (own2.contains ·) && own2.all (own.contains ·) && chkTg false N (relS scope sc) tg2 t2 && decide (fs2.length ≤ 1) && chkL T hot N (relS scope sc) ifs2 fs2 && chkI T hot N sc k src t it && chkI T hot N (relS scope sc) k2 src2 t2 it2) := by
  cases k <;> cases k2 <;> first
    | rfl
    | (rcases src with _ | ⟨c, _ | ⟨d, r⟩⟩ <;> rfl)
    | (rcases src2 with _ | ⟨c, _ | ⟨d, r⟩⟩ <;> rfl)
    | (rcases src with _ | ⟨c, _ | ⟨d, r⟩⟩ <;> rcases src2 with _ | ⟨c, _ | ⟨d, r⟩⟩ <;> rfl)
theorem chk_dc {T : Tb} {hot : Bool} {N : List Str} {sc : Scope} {tg : Tg} {k : ITk} {src ifs : List CE} {ke ve : CE} {own : List Nat} {t it kx vx : Expr} {fs : List Expr} {scope : Scope} {p : Pos} :
    chkE T hot N sc (.dc tg k src ifs ke ve own) (.DictComp kx vx [⟨t, it, fs, 0⟩] scope p) = (!hot && blkC N sc scope (ownP N own) && decide ((ownP N own).map (·.2) = own) && tg.slots.all (own.contains ·) && chkTg false N (relS scope sc) tg t && decide (fs.length ≤ 1) && chkL T hot N (relS scope sc) ifs fs && chkE T hot N (relS scope sc) ke kx && chkE T hot N (relS scope sc) ve vx && chkI T hot N sc k src t it) := by
  cases k <;> first
    | rfl
    | (rcases src with _ | ⟨c, _ | ⟨d, r⟩⟩ <;> rfl)
theorem boot_ty (t : TyC) : bootBuiltins (t.nm : Str) = some (.type t.nm) := by cases t <;> decide +kernel
theorem ty_nm (t : TyC) : (t.nm : Str) ≠ "__name__" ∧ ((t.nm : Str) == ("__debug__" : Str)) = false := by cases t <;> exact ⟨by decide +kernel, by decide +kernel⟩
theorem plain_ix {e : Expr} (h : notSl e = true) : PlainIx e := fun o i => by
  cases e with
  | Slice a b c p =>
    cases c with
    | none => cases h
    | some c => rfl
  | _ => rfl
theorem all_ns {T : Tb} {hot : Bool} {N : List Str} {sc : Scope} {pos : Pos} {env : PySem.Env} {cs : List CE} {es : List Expr} (h : chkL T hot N sc cs es = true) : (backTo pos (starEach es env)).all (fun x => !x.1) = true := by
  have q := any_ns (pos := pos) (env := env) h
  rw [List.all_eq_not_any_not]
  simp only [Bool.not_not]
  rw [q]
  rfl
def plainT : Expr → Bool
  | .BoolOp _ _ _ => false
  | .UnaryOp .Not _ _ => false
  | .IfExp _ _ _ _ => false
  | .Compare _ _ _ _ => false
  | _ => true
theorem plain_t {e : Expr} (h : plainT e = true) (env : PySem.Env) : ∀ whole, isTrue e env whole = (do let v ← whole; standAt e.pos; holding [v] (truthy v)) := fun whole => by
  cases e with
  | BoolOp _ _ _ => cases h
  | UnaryOp o _ _ => cases o <;> first | rfl | cases h
  | IfExp _ _ _ _ => cases h
  | Compare _ _ _ _ => cases h
  | _ => rfl
section
variable {T : Tb} {P : Ev} {C : Cn} {hot : Bool} {cur : Cur} {W : WX} {k : Nat} {X : Cx}
theorem both {c : CE} {e : Expr} (h : PE X e (tE X.K C P cur W c)) (hp : plainT e = true) : PE X e (tE X.K C P cur W c) ∧ PT X e (tT X.K C P cur W c) := ⟨h, pt_of h (plain_t hp X.env)⟩
end
mutual
theorem snd {T : Tb} {P : Ev} {C : Cn} : ∀ (c : CE) {hot : Bool} {cur : Cur} {W : WX} {k : Nat} {X : Cx}, Gd T P C hot cur W k X → ∀ e, chkE T hot X.N X.env.scope c e = true → PE X e (tE X.K C P cur W c) ∧ PT X e (tT X.K C P cur W c)
  | .cst d, hot, cur, W, k, X, G, e, h => by
    cases e <;> try (cases h; done)
    rename_i v kk p
    refine both ?_ rfl
    cases v <;> cases d <;> try (cases h; done)
    all_goals first
      | exact st_cst pe_non fun _ _ _ => rfl
      | (have h' := of_decide_eq_true h; subst h'; first | exact st_cst pe_int fun _ _ _ => rfl | exact st_cst pe_bl fun _ _ _ => rfl | exact st_cst pe_str fun _ _ _ => rfl)
  | .var i, hot, cur, W, k, X, G, e, h => by
    cases e <;> try (cases h; done)
    rename_i x p
    have h' : (decide (X.N[i]? = some x) && visB X.env.scope x && okN x) = true := h
    simp only [Bool.and_eq_true, decide_eq_true_eq] at h'
    obtain ⟨o1, o2, o3⟩ := okN_of h'.2
    exact both (st_var (pe_var h'.1.1 (vis_of h'.1.2) o1 o2)) rfl
  | .glb y i, hot, cur, W, k, X, G, e, h => by
    cases e <;> try (cases h; done)
    rename_i x p
    have h' : (decide (x = y) && glB X.env.scope x && okN x && decide (T.gl.lookup x = some i)) = true := h
    simp only [Bool.and_eq_true, decide_eq_true_eq] at h'
    obtain ⟨o1, o2, o3⟩ := okN_of h'.1.2
    obtain ⟨t, ht⟩ := G.gl x i h'.2
    exact both (st_glb (pe_glob (gl_of h'.1.1.2) ht ⟨t, rfl⟩ o1)) rfl
  | .bin o a b, hot, cur, W, k, X, G, e, h => by
    cases e <;> try (cases h; done)
    rename_i l op r p
    have h' : (decide (op = o.op) && chkE T hot X.N X.env.scope a l && chkE T hot X.N X.env.scope b r) = true := h
    simp only [Bool.and_eq_true, decide_eq_true_eq] at h'
    obtain ⟨⟨rfl, h1⟩, h2⟩ := h'
    exact both (st_bin (snd a G l h1).1 (snd b G r h2).1) rfl
  | .neg a, hot, cur, W, k, X, G, e, h => by
    cases e <;> try (cases h; done)
    rename_i op l p
    cases op <;> try (cases h; done)
    exact both (st_neg (snd a G l h).1) rfl
  | .cmp o a b, hot, cur, W, k, X, G, e, h => by
    cases e <;> try (cases h; done)
    rename_i l ops rs p
    match ops, rs, h with
    | [op], [r], h =>
      have h' : (!behindInMarks o.op r && decide (op = o.op) && chkE T hot X.N X.env.scope a l && chkE T hot X.N X.env.scope b r) = true := h
      simp only [Bool.and_eq_true, decide_eq_true_eq, Bool.not_eq_true'] at h'
      obtain ⟨⟨⟨hmk, rfl⟩, h1⟩, h2⟩ := h'
      have hu : X.A.units + 128 < cLine := by have := G.un; omega
      exact ⟨st_cmp G.cw hu hmk (snd a G l h1).1 (snd b G r h2).1, tt_cmp G.cw hu hmk (snd a G l h1).1 (snd b G r h2).1⟩
  | .chn o o2 a b c, hot, cur, W, k, X, G, e, h => by
    cases e <;> try (cases h; done)
    rename_i l ops rs p
    match ops, rs, h with
    | [op, op2], [m, r], h =>
      have h' : (!o.isIn && !o2.isIn && decide (op = o.op) && decide (op2 = o2.op) && chkE T hot X.N X.env.scope a l && chkE T hot X.N X.env.scope b m && chkE T hot X.N X.env.scope c r) = true := h
      simp only [Bool.and_eq_true, decide_eq_true_eq, Bool.not_eq_true'] at h'
      obtain ⟨⟨⟨⟨⟨⟨_, hin⟩, rfl⟩, rfl⟩, h1⟩, h2⟩, h3⟩ := h'
      have hu : X.A.units + 128 < cLine := by have := G.un; omega
      exact ⟨st_chn G.cw hu hin (snd a G l h1).1 (snd b G m h2).1 (snd c G r h3).1, tt_chn G.cw hu hin (snd a G l h1).1 (snd b G m h2).1 (snd c G r h3).1⟩
  | .ands es, hot, cur, W, k, X, G, e, h => by
    cases e <;> try (cases h; done)
    rename_i op vs p
    cases op <;> try (cases h; done)
    exact sndAnd es G vs p h
  | .ors es, hot, cur, W, k, X, G, e, h => by
    cases e <;> try (cases h; done)
    rename_i op vs p
    cases op <;> try (cases h; done)
    exact sndOr es G vs p h
  | .nt a, hot, cur, W, k, X, G, e, h => by
    cases e <;> try (cases h; done)
    rename_i op l p
    cases op <;> try (cases h; done)
    exact ⟨st_nt (snd a G l h).1, tt_nt (snd a G l h).2⟩
  | .ite c a b, hot, cur, W, k, X, G, e, h => by
    cases e <;> try (cases h; done)
    rename_i m l r p
    have h' : (chkE T hot X.N X.env.scope c m && chkE T hot X.N X.env.scope a l && chkE T hot X.N X.env.scope b r) = true := h
    simp only [Bool.and_eq_true] at h'
    exact ⟨st_ite (snd c G m h'.1.1).2 (snd a G l h'.1.2).1 (snd b G r h'.2).1, tt_ite (snd c G m h'.1.1).2 (snd a G l h'.1.2).2 (snd b G r h'.2).2⟩
  | .tup es, hot, cur, W, k, X, G, e, h => by
    cases e <;> try (cases h; done)
    rename_i vs kk p
    exact both (st_tup (sndL es G vs h)) rfl
  | .lst es, hot, cur, W, k, X, G, e, h => by
    cases e <;> try (cases h; done)
    rename_i vs p
    exact both (st_lst (sndL es G vs h)) rfl
  | .dct0, hot, cur, W, k, X, G, e, h => by
    cases e <;> try (cases h; done)
    rename_i ks vs p
    match ks, vs, h with
    | [], [], _ => exact both (st_dct0 G.cw) rfl
  | .call f es, hot, cur, W, k, X, G, e, h => by
    cases e <;> try (cases h; done)
    rename_i fn args kws p
    cases fn <;> try (cases h; done)
    rename_i x p1
    match kws, h with
    | [], h =>
      have h' : (!hot && decide (T.nm f = some x) && glB X.env.scope x && okN x && T.pl f && chkL T hot X.N X.env.scope es args) = true := h
      simp only [Bool.and_eq_true, decide_eq_true_eq, Bool.not_eq_true'] at h'
      obtain ⟨⟨⟨⟨⟨rfl, h1⟩, h2⟩, h3⟩, h0⟩, h4⟩ := h'
      obtain ⟨o1, o2, o3⟩ := okN_of h3
      obtain ⟨j, fa, fd, ps, hj, hm, hk, hb, _, F⟩ := G.fn.fn f x h1
      refine both (st_call (k := 0) F ((G.room rfl).mono (Nat.le_trans (Nat.le_add_right _ 3) hj)) G.gd (gl_of h2) hm hk (hb h0) G.tk (sndL es G args h4) o1 (fun e0 es0 z => ?_) (fun e0 es0 z => ?_) (fun z => ?_)) rfl
      · subst z
        obtain ⟨c, cr, rfl, hc, _⟩ := chkL_to h4
        exact star_of (chk_ns hc) es0 X.env
      · subst z
        obtain ⟨c, cr, rfl, _, hr⟩ := chkL_to h4
        exact any_ns hr
      · subst z
        cases es with
        | nil => rfl
        | cons c cr => cases h4
  | .callk f es ks kes, hot, cur, W, k, X, G, e, h => by
    cases e <;> try (cases h; done)
    rename_i fn args kws p
    cases fn <;> try (cases h; done)
    rename_i x p1
    have h' : (!hot && decide (T.nm f = some x) && glB X.env.scope x && okN x && decide (kws.map (·.arg) = ks.map some) && chkL T hot X.N X.env.scope es args && chkL T hot X.N X.env.scope kes (kws.map (·.value))) = true := h
    simp only [Bool.and_eq_true, decide_eq_true_eq, Bool.not_eq_true'] at h'
    obtain ⟨⟨⟨⟨⟨⟨rfl, h1⟩, h2⟩, h3⟩, h4⟩, h5⟩, h6⟩ := h'
    obtain ⟨o1, o2, o3⟩ := okN_of h3
    obtain ⟨j, fa, fd, ps, hj, hm, hk, _, hb, F⟩ := G.fn.fn f x h1
    refine both (st_callk (k := 0) F ((G.room rfl).mono (Nat.le_trans (Nat.le_add_right _ 3) hj)) G.gd (gl_of h2) hm hk hb G.tk (sndL es G args h5) (sndK kes G kws h6) h4 o1 (fun e0 es0 z => ?_) (fun e0 es0 z => ?_) (fun z => ?_)) rfl
    · subst z
      obtain ⟨c, cr, rfl, hc, _⟩ := chkL_to h5
      exact star_of (chk_ns hc) es0 X.env
    · subst z
      exact any_ns h5
    · subst z
      cases es with
      | nil => rfl
      | cons c cr => cases h5
  | .bi g es, hot, cur, W, k, X, G, e, h => by
    cases e <;> try (cases h; done)
    rename_i fn args kws p
    cases fn <;> try (cases h; done)
    rename_i x p1
    match kws, h with
    | [], h =>
      have h' := chk_bi.symm.trans h
      simp only [Bool.and_eq_true, decide_eq_true_eq] at h'
      obtain ⟨⟨⟨⟨h0, rfl⟩, h2⟩, h3⟩, h4⟩ := h'
      have hc' : g.hot = false → X.calm = true := fun z => G.calm (by
        rw [z] at h0
        cases hot
        · rfl
        · cases h0)
      by_cases hi : ∃ t, g = .isi t
      · obtain ⟨t, rfl⟩ := hi
        simp only [chkB] at h4
        split at h4
        · rename_i a y p2
          simp only [Bool.and_eq_true, decide_eq_true_eq] at h4
          obtain ⟨⟨⟨rfl, k2⟩, k3⟩, k4⟩ := h4
          cases es with
          | nil => cases k4
          | cons c cr =>
            obtain ⟨e0, r0, ez, kc, kr⟩ := chkL_cons k4
            injection ez with ez1 ez2
            subst ez1 ez2
            have cz : cr = [] := by
              cases cr with
              | nil => rfl
              | cons _ _ => cases kr
            subst cz
            exact both (st_isi G.cw (gl_of h2) (fr_of G h3) (gl_of k2) (fr_of G k3) (boot_ty t) (ty_nm t).1 (ty_nm t).2 (snd c G _ kc).1 (star_of (chk_ns kc) _ X.env)) rfl
        · cases h4
      · have hn : ∀ t, g ≠ .isi t := fun t z => hi ⟨t, z⟩
        have h5 : (!args.isEmpty && chkL T hot X.N X.env.scope es args) = true := by
          cases g <;> first | exact absurd rfl (hn _) | exact h4
        simp only [Bool.and_eq_true] at h5
        match args, h5 with
        | a :: rest, h5 =>
          obtain ⟨c, cr, e1, hc, hr⟩ := chkL_to h5.2
          exact both (st_bi (cr_bi G.cw hc' G.un G.gd hn) (gl_of h2) (fr_of G h3) (boot_bi g) (sndL es G (a :: rest) h5.2) (bi_nm g).1 (bi_nm g).2 (star_of (chk_ns hc) rest X.env) (any_ns hr)) rfl
  | .mt m o es, hot, cur, W, k, X, G, e, h => by
    cases e <;> try (cases h; done)
    rename_i fn args kws p
    cases fn <;> try (cases h; done)
    rename_i x n p1
    match kws, h with
    | [], h =>
      have h' : (!hot && decide (n = m.nm) && baseB x && (p1.endLine == p.line) && decide (args.length < 29) && !args.isEmpty && chkE T hot X.N X.env.scope o x && chkL T hot X.N X.env.scope es args) = true := h
      simp only [Bool.and_eq_true, decide_eq_true_eq, Bool.not_eq_true'] at h'
      obtain ⟨⟨⟨⟨⟨⟨⟨rfl, rfl⟩, h1⟩, h2⟩, h3⟩, h4⟩, h5⟩, h6⟩ := h'
      match args, h3, h4, h6 with
      | a :: rest, h3, _, h6 =>
        obtain ⟨c, cr, e1, hc, hr⟩ := chkL_to h6
        have hst := star_of (chk_ns hc) rest X.env
        exact both (st_mt G.cw (by have := G.un; omega) (snd o G x h5).1 (sndL es G (a :: rest) h6) h1 h2 h3 (all_ns h6) hst (any_ns hr)) rfl
  | .idx a b, hot, cur, W, k, X, G, e, h => by
    cases e <;> try (cases h; done)
    rename_i l r p
    have h' : (notSl r && chkE T hot X.N X.env.scope a l && chkE T hot X.N X.env.scope b r) = true := h
    simp only [Bool.and_eq_true] at h'
    exact both (st_idx G.cw (by have := G.un; omega) (snd a G l h'.1.2).1 (snd b G r h'.2).1 (plain_ix h'.1.1)) rfl
  | .slc a lo hi, hot, cur, W, k, X, G, e, h => by
    cases e <;> try (cases h; done)
    rename_i l r p
    cases r <;> try (cases h; done)
    rename_i el eh est p2
    cases est <;> try (cases h; done)
    have h' : (chkE T hot X.N X.env.scope a l && chkO T hot X.N X.env.scope lo el && chkO T hot X.N X.env.scope hi eh) = true := h
    simp only [Bool.and_eq_true] at h'
    exact both (st_slc (snd a G l h'.1.1).1 (sndO lo G el h'.1.2) (sndO hi G eh h'.2)) rfl
  | .lc tg kk src ifs elt own, hot, cur, W, k, X, G, e, h => by
    cases e <;> try (cases h; done)
    rename_i el gens scope p
    match gens, h with
    | [⟨t, it, fs, 0⟩], h =>
      have h' := chk_lc.symm.trans h
      simp only [Bool.and_eq_true, decide_eq_true_eq, Bool.not_eq_true'] at h'
      obtain ⟨⟨⟨⟨⟨⟨⟨⟨rfl, h1⟩, h2⟩, h3⟩, h4⟩, h5⟩, h6⟩, h7⟩, h8⟩ := h'
      obtain ⟨hi, hs⟩ := sndI G h8 (fun es hes => sndL src G es hes) (fun c e hc he => snd1 src G c e hc he)
      refine both (st_lc (G.xg0 rfl) (G.calm rfl) G.nd G.fu hi (blkOk_by h1) h2 (fun i hi => ?_) (fun s H c cl fp => ?_) (fun s H c cl fp => ?_) (fun s H c cl fp => ?_) (hs X.env)) rfl
      · have q := List.all_eq_true.mp h3 i hi
        simpa using q
      · exact pg_tg (cel := false) (X := X.blk s H scope (compEnvC scope cl c X.env) fp) (fun z => by cases z) (G.calm rfl) G.nd h4
      · match fs, h5, h6 with
        | [], _, h6 => exact sndIf0 ifs h6
        | [f], _, h6 => exact sndIf1 ifs (G.blk s H scope (compEnvC scope cl c X.env) fp) f h6
        | _ :: _ :: _, h5, _ => simp at h5
      · exact (snd elt (G.blk s H scope (compEnvC scope cl c X.env) fp) el h7).1
  | .lc2 tg kk src ifs tg2 kk2 src2 ifs2 elt own own2, hot, cur, W, k, X, G, e, h => by
    cases e <;> try (cases h; done)
    rename_i el gens scope p
    match gens, h with
    | [⟨t, it, fs, 0⟩, ⟨t2, it2, fs2, 0⟩], h =>
      have h' := chk_lc2.symm.trans h
      simp only [Bool.and_eq_true, decide_eq_true_eq, Bool.not_eq_true'] at h'
      obtain ⟨⟨⟨⟨⟨⟨⟨⟨⟨⟨⟨⟨⟨⟨rfl, h1⟩, h2⟩, h3⟩, h4⟩, h5⟩, h6⟩, h7⟩, g1⟩, g2⟩, g3⟩, g4⟩, g5⟩, h8⟩, g8⟩ := h'
      obtain ⟨hi, hs⟩ := sndI G h8 (fun es hes => sndL src G es hes) (fun c e hc he => snd1 src G c e hc he)
      have GB := fun s H c cl fp => G.blk s H scope (compEnvC scope cl c X.env) fp
      have hi2 := fun s H c cl fp => sndI (GB s H c cl fp) g8 (fun es hes => sndL src2 (GB s H c cl fp) es hes) (fun c' e hc he => snd1 src2 (GB s H c cl fp) c' e hc he)
      refine both (st_lc2 (G.xg0 rfl) (G.calm rfl) G.nd G.fu hi (blkOk_by h1) h2 (fun i hi => ?_) (fun i hi => ?_) (fun i hi => ?_) (fun s H c cl fp => ?_) (fun s H c cl fp => ?_) (fun s H c cl fp => (hi2 s H c cl fp).1) (fun s H c cl fp => ?_) (fun s H c cl fp => ?_) (fun s H c cl fp => ?_) (hs X.env) ?_) rfl
      · have q := List.all_eq_true.mp h3 i hi
        simpa using q
      · have q := List.all_eq_true.mp g1 i hi
        simpa using q
      · have q := List.all_eq_true.mp g2 i hi
        simpa using q
      · exact pg_tg (cel := false) (X := X.blk s H scope (compEnvC scope cl c X.env) fp) (fun z => by cases z) (G.calm rfl) G.nd h4
      · match fs, h5, h6 with
        | [], _, h6 => exact sndIf0 ifs h6
        | [f], _, h6 => exact sndIf1 ifs (GB s H c cl fp) f h6
        | _ :: _ :: _, h5, _ => simp at h5
      · exact pg_tg (cel := false) (X := X.blk s H scope (compEnvC scope cl c X.env) fp) (fun z => by cases z) (G.calm rfl) G.nd g3
      · match fs2, g4, g5 with
        | [], _, h6 => exact sndIf0 ifs2 h6
        | [f], _, h6 => exact sndIf1 ifs2 (GB s H c cl fp) f h6
        | _ :: _ :: _, h5, _ => simp at h5
      · exact (snd elt (GB s H c cl fp) el h7).1
      · exact chkI_fold g8
  | .srtF f a, hot, cur, W, k, X, G, e, h => by
    cases e <;> try (cases h; done)
    rename_i fn args kws p
    match fn, args, kws, h with
    | .Name x p1, [v], [⟨some kn, .Name y p2, p3⟩], h =>
      have h' : (!hot && decide (x = ("sorted" : Str)) && decide (kn = ("key" : Str)) && glB X.env.scope x && T.fr.contains x && decide (T.nm f = some y) && glB X.env.scope y && okN y && T.pl f && chkE T hot X.N X.env.scope a v) = true := h
      simp only [Bool.and_eq_true, decide_eq_true_eq, Bool.not_eq_true'] at h'
      obtain ⟨⟨⟨⟨⟨⟨⟨⟨⟨rfl, rfl⟩, rfl⟩, h3⟩, h4⟩, h5⟩, h6⟩, h7⟩, h8⟩, h9⟩ := h'
      obtain ⟨j, fa, fd, ps, hj, hmy, hk, hb, _, F⟩ := G.fn.fn f y h5
      exact both (st_srtF F ((G.room rfl).mono (by omega)) G.gd G.un (gl_of h3) (fr_of G h4) (gl_of h6) hmy (hb h8) (okN_of h7).1 (snd a G v h9).1 (star_of (chk_ns h9) [] X.env)) rfl
  | .srtL body a, hot, cur, W, k, X, G, e, h => by
    cases e <;> try (cases h; done)
    rename_i fn args kws p
    match fn, args, kws, h with
    | .Name x p1, [v], [⟨some kn, .Lambda ⟨[], [⟨y, none, yp⟩], none, [], [], none, []⟩ lb lsc p2, p3⟩], h =>
      have h' : (!hot && decide (x = ("sorted" : Str)) && decide (kn = ("key" : Str)) && glB X.env.scope x && T.fr.contains x && T.lm.contains X.N && !T.lm.contains [y] && lamB y lsc && chkE T hot [y] lsc body lb && chkE T hot X.N X.env.scope a v) = true := h
      simp only [Bool.and_eq_true, decide_eq_true_eq, Bool.not_eq_true'] at h'
      obtain ⟨⟨⟨⟨⟨⟨⟨⟨⟨rfl, rfl⟩, rfl⟩, h3⟩, h4⟩, h5⟩, h6⟩, h7⟩, h8⟩, h9⟩ := h'
      obtain ⟨cc, tp, TB, hcode, hmem, hu⟩ := G.lam h5
      obtain ⟨k', hr', hk'⟩ := G.low h5 rfl
      refine both (st_srtL (k := k') hr' G.un (G.xg0 rfl) TB hcode hmem hu h7 (gl_of h3) (fr_of G h4) (snd a G v h9).1 (star_of (chk_ns h9) [] X.env) fun A outer s H f c' hr hgd => ?_) rfl
      have G' : Gd T P C false none W0 k' (cxOf (L2.CX X.prog X.w) X.prog X.w X.K X.mg X.base [y] (X.env.qual ++ "<lambda>") lsc f (.ref c') A outer s H fun _ _ _ => False) := by
        refine ⟨G.cw, by simp [cxOf], by have := hr.un; show (A.deeper (envOfC (X.env.qual ++ "<lambda>") lsc s.heap.objs.size f (.ref c'))).units + 200 < _; omega, by rw [← G.gd]; exact hgd, G.fu, G.gl, G.fr, fun _ => rfl, fun _ => hr, fun _ => rfl, fun _ => G.xg0 rfl, takes0, fun z => ?_, fun z => ?_, hk', fun _ _ _ _ _ _ _ _ => no_excf, fun _ _ _ _ _ _ _ _ _ _ _ _ _ _ => no_exci⟩
        · have z' : T.lm.contains [y] = true := z
          rw [h6] at z'
          cases z'
        · have z' : T.lm.contains [y] = true := z
          rw [h6] at z'
          cases z'
      exact (snd body G' lb h8).1
  | .excf i f, hot, cur, W, k, X, G, e, h => by
    cases e <;> try (cases h; done)
    rename_i o g p
    cases o <;> try (cases h; done)
    rename_i x p1
    have h' : (decide (g = f) && decide (X.N[i]? = some x) && visB X.env.scope x && okN x) = true := h
    simp only [Bool.and_eq_true, decide_eq_true_eq] at h'
    obtain ⟨⟨⟨rfl, h1⟩, h2⟩, h3⟩ := h'
    exact both (G.xf i g x p1 p h1 (vis_of h2) h3) rfl
  | .exci i y, hot, cur, W, k, X, G, e, h => by
    cases e <;> try (cases h; done)
    rename_i fn args kws p
    cases fn <;> try (cases h; done)
    rename_i g p0
    match args, kws, h with
    | [.Name x p1, .Name z p2], [], h =>
      have h' : (decide (g = ("isinstance" : Str)) && decide (z = y) && decide (X.N[i]? = some x) && visB X.env.scope x && okN x && glB X.env.scope g && glB X.env.scope z && T.fr.contains g && T.fr.contains z) = true := h
      simp only [Bool.and_eq_true, decide_eq_true_eq] at h'
      obtain ⟨⟨⟨⟨⟨⟨⟨⟨rfl, rfl⟩, h1⟩, h2⟩, h3⟩, h4⟩, h5⟩, h6⟩, h7⟩ := h'
      exact both (G.xi i z x p0 p1 p2 p h1 (vis_of h2) h3 (gl_of h4) (gl_of h5) (fr_of G h6) (fr_of G h7)) rfl
  | .bad, hot, cur, W, k, X, G, e, h => ⟨st_bad, ⟨fun pins s0 σ H Q I ⟨bb, s, rr, en, u, R, E, ev, post⟩ => by cases ev⟩⟩
  | .fld a f, hot, cur, W, k, X, G, e, h => by
    cases e <;> try (cases h; done)
    rename_i o g p
    have h' : (decide (g = f) && baseB o && chkE T hot X.N X.env.scope a o) = true := h
    simp only [Bool.and_eq_true, decide_eq_true_eq] at h'
    obtain ⟨⟨rfl, h1⟩, h2⟩ := h'
    exact both (st_fld G.fn.cl (snd a G o h2).1 h1) rfl
  | .mc a m es ks kes, hot, cur, W, k, X, G, e, h => by
    cases e <;> try (cases h; done)
    rename_i fn args kws p
    cases fn <;> try (cases h; done)
    rename_i o g ap
    have h' : (!hot && decide (g = m) && baseB o && (ap.endLine == p.line) && decide (args.length + kws.length < 29) && decide (kws.map (·.arg) = ks.map some) && chkE T hot X.N X.env.scope a o && chkL T hot X.N X.env.scope es args && chkL T hot X.N X.env.scope kes (kws.map (·.value))) = true := h
    simp only [Bool.and_eq_true, decide_eq_true_eq, Bool.not_eq_true'] at h'
    obtain ⟨⟨⟨⟨⟨⟨⟨⟨rfl, rfl⟩, h1⟩, h2⟩, h3⟩, h4⟩, h5⟩, h6⟩, h7⟩ := h'
    refine both (st_mc G.fn.cl (G.room rfl) G.gd G.tk (snd a G o h5).1 (sndL es G args h6) (sndK kes G kws h7) h4 h1 h2 h3 (all_ns h6) (fun e0 es0 z => ?_) (fun e0 es0 z => ?_) (fun z => ?_)) rfl
    · subst z
      obtain ⟨c, cr, rfl, hc, _⟩ := chkL_to h6
      exact star_of (chk_ns hc) es0 X.env
    · subst z
      exact any_ns h6
    · subst z
      cases es with
      | nil => rfl
      | cons c cr => cases h6
  | .new c es ks kes, hot, cur, W, k, X, G, e, h => by
    cases e <;> try (cases h; done)
    rename_i fn args kws p
    cases fn <;> try (cases h; done)
    rename_i x p1
    have h' : (!hot && decide (x = c) && glB X.env.scope x && okN x && decide (kws.map (·.arg) = ks.map some) && chkL T hot X.N X.env.scope es args && chkL T hot X.N X.env.scope kes (kws.map (·.value))) = true := h
    simp only [Bool.and_eq_true, decide_eq_true_eq, Bool.not_eq_true'] at h'
    obtain ⟨⟨⟨⟨⟨⟨rfl, rfl⟩, h2⟩, h3⟩, h4⟩, h5⟩, h6⟩ := h'
    obtain ⟨o1, o2, o3⟩ := okN_of h3
    refine both (st_new G.fn.cl (G.room rfl) G.gd G.tk (gl_of h2) o1 (sndL es G args h5) (sndK kes G kws h6) h4 (fun e0 es0 z => ?_) (fun e0 es0 z => ?_) (fun z => ?_)) rfl
    · subst z
      obtain ⟨c, cr, rfl, hc, _⟩ := chkL_to h5
      exact star_of (chk_ns hc) es0 X.env
    · subst z
      exact any_ns h5
    · subst z
      cases es with
      | nil => rfl
      | cons c cr => cases h5
  | .isC a c, hot, cur, W, k, X, G, e, h => by
    cases e <;> try (cases h; done)
    rename_i fn args kws p
    cases fn <;> try (cases h; done)
    rename_i g p0
    match args, kws, h with
    | [x, .Name y p2], [], h =>
      have h' : (decide (g = ("isinstance" : Str)) && decide (y = c) && glB X.env.scope g && T.fr.contains g && glB X.env.scope y && okN y && chkE T hot X.N X.env.scope a x) = true := by
        cases x <;> exact h
      simp only [Bool.and_eq_true, decide_eq_true_eq] at h'
      obtain ⟨⟨⟨⟨⟨⟨rfl, rfl⟩, h1⟩, h2⟩, h3⟩, h4⟩, h5⟩ := h'
      exact both (st_isC G.fn.cl G.cw (gl_of h1) (fr_of G h2) (gl_of h3) (okN_of h4).1 (snd a G x h5).1 (star_of (chk_ns h5) _ X.env)) rfl
  | .dc tg kk src ifs ke ve own, hot, cur, W, k, X, G, e, h => by
    cases e <;> try (cases h; done)
    rename_i kx vx gens scope p
    match gens, h with
    | [⟨t, it, fs, 0⟩], h =>
      have h' := chk_dc.symm.trans h
      simp only [Bool.and_eq_true, decide_eq_true_eq, Bool.not_eq_true'] at h'
      obtain ⟨⟨⟨⟨⟨⟨⟨⟨⟨rfl, h1⟩, h2⟩, h3⟩, h4⟩, h5⟩, h6⟩, h7⟩, h7v⟩, h8⟩ := h'
      obtain ⟨hi, hs⟩ := sndI G h8 (fun es hes => sndL src G es hes) (fun c e hc he => snd1 src G c e hc he)
      refine both (st_dc G.cw (by have := G.un; omega) (G.xg0 rfl) (G.calm rfl) G.nd hi (blkOk_by h1) h2 (fun i hi => ?_) (fun s H c cl fp => ?_) (fun s H c cl fp => ?_) (fun s H c cl fp => ?_) (fun s H c cl fp => ?_) (hs X.env)) rfl
      · have q := List.all_eq_true.mp h3 i hi
        simpa using q
      · exact pg_tg (cel := false) (X := X.blk s H scope (compEnvC scope cl c X.env) fp) (fun z => by cases z) (G.calm rfl) G.nd h4
      · match fs, h5, h6 with
        | [], _, h6 => exact sndIf0 ifs h6
        | [f], _, h6 => exact sndIf1 ifs (G.blk s H scope (compEnvC scope cl c X.env) fp) f h6
        | _ :: _ :: _, h5, _ => simp at h5
      · exact (snd ke (G.blk s H scope (compEnvC scope cl c X.env) fp) kx h7).1
      · exact (snd ve (G.blk s H scope (compEnvC scope cl c X.env) fp) vx h7v).1
theorem sndL {T : Tb} {P : Ev} {C : Cn} : ∀ (cs : List CE) {hot : Bool} {cur : Cur} {W : WX} {k : Nat} {X : Cx}, Gd T P C hot cur W k X → ∀ es, chkL T hot X.N X.env.scope cs es = true → PA X es (tL X.K C P cur W cs)
  | [], hot, cur, W, k, X, G, es, h => by
    have e := chkL_nil h
    subst e
    exact st_nil
  | c :: cs, hot, cur, W, k, X, G, es, h => by
    obtain ⟨e, r, rfl, h1, h2⟩ := chkL_cons h
    exact st_cons (snd c G e h1).1 (sndL cs G r h2) (star_of (chk_ns h1) r X.env)
theorem sndK {T : Tb} {P : Ev} {C : Cn} : ∀ (cs : List CE) {hot : Bool} {cur : Cur} {W : WX} {k : Nat} {X : Cx}, Gd T P C hot cur W k X → ∀ kws : List Keyword, chkL T hot X.N X.env.scope cs (kws.map (·.value)) = true → PK X kws (tL X.K C P cur W cs)
  | [], hot, cur, W, k, X, G, kws, h => by
    have e := chkL_nil h
    cases kws with
    | cons _ _ => cases e
    | nil => exact ⟨fun pos pins s σ H Q I ⟨bb, s0, rr, en, u, R, E, ev, post⟩ => pk_nil.run pos pins s σ H Q I (by
        simp only [evL, ret] at ev
        cases ev
        exact post.self R rfl)⟩
  | c :: cs, hot, cur, W, k, X, G, kws, h => by
    cases kws with
    | nil => cases h
    | cons kw kws =>
      obtain ⟨nm, v, kp⟩ := kw
      obtain ⟨e, r, ez, h1, h2⟩ := chkL_cons h
      cases ez
      refine ⟨fun pos pins s σ H Q I ⟨bb, s0, rr, en, u, R, E, ev, post⟩ => (pk_cons (snd c G v h1).1 (sndK cs G kws h2)).run pos pins s σ H Q I ?_⟩
      simp only [evL] at ev
      refine tN.seq R E ev post fun x s1 r1 H1 v1 fx1 ev1 R1 E1 q1 post1 => ?_
      refine tN.seq (ev := fun e s => evL P cur cs e s) (RP := RDL X.K) R1 E1 ev1 post1 fun xs s2 r2 H2 vs fx2 ev2 R2 E2 q2 post2 => ?_
      cases ev2
      exact post2.self R2 ⟨v1, vs, rfl, Rep.mono fx2.pre fx2.ext _ _ q1, q2⟩
theorem snd1 {T : Tb} {P : Ev} {C : Cn} : ∀ (cs : List CE) {hot : Bool} {cur : Cur} {W : WX} {k : Nat} {X : Cx}, Gd T P C hot cur W k X → ∀ c e, cs = [c] → chkE T hot X.N X.env.scope c e = true → PE X e (tE X.K C P cur W c)
  | [], hot, cur, W, k, X, G, c, e, z, h => by cases z
  | c0 :: cs, hot, cur, W, k, X, G, c, e, z, h => by
    cases z
    exact (snd c0 G e h).1
theorem sndO {T : Tb} {P : Ev} {C : Cn} : ∀ (c : Option CE) {hot : Bool} {cur : Cur} {W : WX} {k : Nat} {X : Cx}, Gd T P C hot cur W k X → ∀ e, chkO T hot X.N X.env.scope c e = true → PO X e (tOp' X.K C P cur W c)
  | none, hot, cur, W, k, X, G, e, h => by
    cases e with
    | none => exact st_none
    | some e => cases h
  | some c, hot, cur, W, k, X, G, e, h => by
    cases e with
    | none => cases h
    | some e => exact st_some (snd c G e h).1
theorem sndAnd {T : Tb} {P : Ev} {C : Cn} : ∀ (cs : List CE) {hot : Bool} {cur : Cur} {W : WX} {k : Nat} {X : Cx}, Gd T P C hot cur W k X → ∀ vs p, chkL T hot X.N X.env.scope cs vs = true → PE X (.BoolOp .And vs p) (tE X.K C P cur W (.ands cs)) ∧ PT X (.BoolOp .And vs p) (tT X.K C P cur W (.ands cs))
  | [], hot, cur, W, k, X, G, vs, p, h => ⟨⟨fun _ _ _ _ _ _ ⟨_, _, _, _, _, _, _, ev, _⟩ => by cases ev⟩, ⟨fun _ _ _ _ _ _ ⟨_, _, _, _, _, _, _, ev, _⟩ => by cases ev⟩⟩
  | [c], hot, cur, W, k, X, G, vs, p, h => by
    obtain ⟨e, r, rfl, h1, h2⟩ := chkL_cons h
    have e2 := chkL_nil h2
    subst e2
    exact ⟨an_one (snd c G e h1).1, (anT_one (snd c G e h1).2).pt⟩
  | c :: c2 :: cs, hot, cur, W, k, X, G, vs, p, h => by
    obtain ⟨e, r, rfl, h1, h2⟩ := chkL_cons h
    obtain ⟨e2, r2, rfl, _, _⟩ := chkL_cons h2
    have ih := sndAnd (c2 :: cs) G (e2 :: r2) p h2
    exact ⟨an_cons (snd c G e h1).1 ih.1, (anT_cons (snd c G e h1).2 (sndAndW (c2 :: cs) G e2 r2 p h2)).pt⟩
theorem sndAndW {T : Tb} {P : Ev} {C : Cn} : ∀ (cs : List CE) {hot : Bool} {cur : Cur} {W : WX} {k : Nat} {X : Cx}, Gd T P C hot cur W k X → ∀ v vs p, chkL T hot X.N X.env.scope cs (v :: vs) = true → PW X (.BoolOp .And (v :: vs) p) (tAnT X.K C P cur W cs)
  | [], hot, cur, W, k, X, G, v, vs, p, h => by cases h
  | [c], hot, cur, W, k, X, G, v, vs, p, h => by
    obtain ⟨e, r, e1, h1, h2⟩ := chkL_cons h
    cases e1
    have e2 := chkL_nil h2
    subst e2
    exact anT_one (snd c G v h1).2
  | c :: c2 :: cs, hot, cur, W, k, X, G, v, vs, p, h => by
    obtain ⟨e, r, e1, h1, h2⟩ := chkL_cons h
    cases e1
    obtain ⟨e2, r2, rfl, _, _⟩ := chkL_cons h2
    exact anT_cons (snd c G v h1).2 (sndAndW (c2 :: cs) G e2 r2 p h2)
theorem sndOr {T : Tb} {P : Ev} {C : Cn} : ∀ (cs : List CE) {hot : Bool} {cur : Cur} {W : WX} {k : Nat} {X : Cx}, Gd T P C hot cur W k X → ∀ vs p, chkL T hot X.N X.env.scope cs vs = true → PE X (.BoolOp .Or vs p) (tE X.K C P cur W (.ors cs)) ∧ PT X (.BoolOp .Or vs p) (tT X.K C P cur W (.ors cs))
  | [], hot, cur, W, k, X, G, vs, p, h => ⟨⟨fun _ _ _ _ _ _ ⟨_, _, _, _, _, _, _, ev, _⟩ => by cases ev⟩, ⟨fun _ _ _ _ _ _ ⟨_, _, _, _, _, _, _, ev, _⟩ => by cases ev⟩⟩
  | [c], hot, cur, W, k, X, G, vs, p, h => by
    obtain ⟨e, r, rfl, h1, h2⟩ := chkL_cons h
    have e2 := chkL_nil h2
    subst e2
    exact ⟨on_one (snd c G e h1).1, (onT_one (snd c G e h1).2).pt⟩
  | c :: c2 :: cs, hot, cur, W, k, X, G, vs, p, h => by
    obtain ⟨e, r, rfl, h1, h2⟩ := chkL_cons h
    obtain ⟨e2, r2, rfl, _, _⟩ := chkL_cons h2
    have ih := sndOr (c2 :: cs) G (e2 :: r2) p h2
    exact ⟨on_cons (snd c G e h1).1 ih.1, (onT_cons (snd c G e h1).2 (sndOrW (c2 :: cs) G e2 r2 p h2)).pt⟩
theorem sndOrW {T : Tb} {P : Ev} {C : Cn} : ∀ (cs : List CE) {hot : Bool} {cur : Cur} {W : WX} {k : Nat} {X : Cx}, Gd T P C hot cur W k X → ∀ v vs p, chkL T hot X.N X.env.scope cs (v :: vs) = true → PW X (.BoolOp .Or (v :: vs) p) (tOnT X.K C P cur W cs)
  | [], hot, cur, W, k, X, G, v, vs, p, h => by cases h
  | [c], hot, cur, W, k, X, G, v, vs, p, h => by
    obtain ⟨e, r, e1, h1, h2⟩ := chkL_cons h
    cases e1
    have e2 := chkL_nil h2
    subst e2
    exact onT_one (snd c G v h1).2
  | c :: c2 :: cs, hot, cur, W, k, X, G, v, vs, p, h => by
    obtain ⟨e, r, e1, h1, h2⟩ := chkL_cons h
    cases e1
    obtain ⟨e2, r2, rfl, _, _⟩ := chkL_cons h2
    exact onT_cons (snd c G v h1).2 (sndOrW (c2 :: cs) G e2 r2 p h2)
theorem sndIf0 {T : Tb} {P : Ev} {C : Cn} {hot : Bool} {N : List Str} {sc : Scope} {X : Cx} : ∀ (cs : List CE), chkL T hot N sc cs [] = true → PTs X [] (tIf X.K C P cs)
  | [], h => ⟨fun pins s σ H Q I ⟨bb, hs, rr, en, u, R, E, ev, post⟩ => pts_nil.run pins s σ H Q I (by
      cases ev
      exact post.self R rfl)⟩
  | c :: cs, h => by cases h
theorem sndIf1 {T : Tb} {P : Ev} {C : Cn} : ∀ (cs : List CE) {k : Nat} {X : Cx}, Gd T P C false none W0 k X → ∀ f, chkL T false X.N X.env.scope cs [f] = true → PTs X [f] (tIf X.K C P cs)
  | [], k, X, G, f, h => by cases h
  | [c], k, X, G, f, h => by
    obtain ⟨e, r, e1, h1, h2⟩ := chkL_cons h
    cases e1
    exact ⟨fun pins s σ H Q I q => (pts_one (snd c G f h1).2).run pins s σ H Q I q⟩
  | c :: c2 :: cs, k, X, G, f, h => by
    obtain ⟨e, r, e1, h1, h2⟩ := chkL_cons h
    cases e1
    cases h2
end
end PV
set_option Elab.async false
set_option linter.all false
set_option autoImplicit false
set_option maxRecDepth 100000
set_option maxHeartbeats 4000000
namespace PV
open PySem PySem.Spec PyProof.Rows L2
def PostS {b : List MO} (K : PySem.W.Frag) (C : Cn) (W : WX) (r : RA) (H : Hp) (o : SR b) (D : Ends) : Prop := match o with
  | .nx e s => ∀ r' H' σ', Fx C.tb r H r' H' → Rel C.w K r' s.M H' → EnvR C K r' H' e σ' → D.nx σ' H'
  | .rt d s => ∀ r' H' v, Fx C.tb r H r' H' → Rel C.w K r' s.M H' → Rep K r' H' d v → D.rt v H'
  | .ex c fs e s => ∀ r' H' dd σ', Fx C.tb r H r' H' → Rel C.w K r' s.M H' → EnvR C K r' H' e σ' → XdR K r' H' fs dd → W (.ref (C.ad c)) dd σ' H'
def tX (K : PySem.W.Frag) (C : Cn) (W : WX) (ex : {b : List MO} → Env → HS b → Option (SR b)) : TS := fun D σ H =>
  ∃ (b : List MO) (s : HS b) (r : RA) (e : Env) (o : SR b), Rel C.w K r s.M H ∧ EnvR C K r H e σ ∧ ex e s = some o ∧ PostS K C W r H o D
def tSt (K : PySem.W.Frag) (C : Cn) (P : Ev) (cur : Cur) (W : WX) (c : CS) : TS := tX K C W fun e s => exS P cur c e s
def tBk (K : PySem.W.Frag) (C : Cn) (P : Ev) (cur : Cur) (W : WX) (cs : List CS) : TS := tX K C W fun e s => exB P cur cs e s
theorem PS.imp {X : Cx} {st : Stmt} {t t' : TS} (h : PS X st t) (i : ∀ D σ H, t' D σ H → t D σ H) : PS X st t' := ⟨fun pins s σ H D I q => h.run pins s σ H D I (i D σ H q)⟩
theorem PSs.imp {X : Cx} {st : List Stmt} {t t' : TS} (h : PSs X st t) (i : ∀ D σ H, t' D σ H → t D σ H) : PSs X st t' := ⟨fun pins s σ H D I q => h.run pins s σ H D I (i D σ H q)⟩
section
variable {b : List MO} {K : PySem.W.Frag} {C : Cn} {W : WX} {σ : Sl} {r r' : RA} {H H' : Hp} {D : Ends}
theorem PostS.mono {o : SR b} (h : PostS K C W r H o D) (fx : Fx C.tb r H r' H') : PostS K C W r' H' o D := by
  cases o with
  | nx e s => exact fun r2 H2 v x => h r2 H2 v (fx.trans x)
  | rt d s => exact fun r2 H2 v x => h r2 H2 v (fx.trans x)
  | ex c fs e s => exact fun r2 H2 v w x => h r2 H2 v w (fx.trans x)
theorem lft_seq {α β : Type} {RP : RA → Hp → α → β → Prop} {s : HS b} {e : Env} {ev : {b : List MO} → Env → HS b → R b α} {F : α → HS b → Option (SR b)} {o : SR b} {Q : β → Hp → Prop} (R : Rel C.w K r s.M H) (E : EnvR C K r H e σ) (h : lft e (ev e s) F = some o) (post : PostS K C W r H o D)
    (next : ∀ a s1 r' H' v, Fx C.tb r H r' H' → F a s1 = some o → Rel C.w K r' s1.M H' → EnvR C K r' H' e σ → RP r' H' a v → PostS K C W r' H' o D → Q v H') : tN RP K C W ev σ H Q := by
  cases q : ev e s with
  | none => rw [q] at h; cases h
  | some o1 =>
    rw [q] at h
    refine ⟨b, s, r, e, o1, R, E, q, ?_⟩
    cases o1 with
    | ok a s1 => exact fun r' H' v x R1 rp => next a s1 r' H' v x h R1 (E.mono x) rp (post.mono x)
    | ex c fs s1 =>
      cases h
      exact fun r' H' dd x R1 xd => post r' H' dd σ x R1 (E.mono x) xd
theorem sq_seq {s : HS b} {e : Env} {ex : {b : List MO} → Env → HS b → Option (SR b)} {F : Env → HS b → Option (SR b)} {o : SR b} {u : TS} (R : Rel C.w K r s.M H) (E : EnvR C K r H e σ) (h : sq (ex e s) F = some o) (post : PostS K C W r H o D)
    (next : ∀ e1 s1 r' H' σ', Fx C.tb r H r' H' → F e1 s1 = some o → Rel C.w K r' s1.M H' → EnvR C K r' H' e1 σ' → PostS K C W r' H' o D → u D σ' H') : tX K C W ex { D with nx := u D } σ H := by
  cases q : ex e s with
  | none => rw [q] at h; cases h
  | some o1 =>
    rw [q] at h
    refine ⟨b, s, r, e, o1, R, E, q, ?_⟩
    cases o1 with
    | nx e1 s1 => exact fun r' H' σ' x R1 E1 => next e1 s1 r' H' σ' x h R1 E1 (post.mono x)
    | rt d s1 =>
      cases h
      exact post
    | ex c fs e1 s1 =>
      cases h
      exact post
end
section
variable {P : Ev} {C : Cn} {cur : Cur} {W : WX} {X : Cx} {a b c : CE} {as bs : List CS} {x y : CS} {e : Expr} {st : Stmt} {sts stt : List Stmt} {pos : Pos}
theorem b_nil : PSs X [] (tBk X.K C P cur W []) := PSs.imp pss_nil fun D σ H ⟨bb, s, rr, en, u, R, E, ev, post⟩ => by
  simp only [exB] at ev
  cases ev
  exact post rr H σ (Fx.refl _ _) R E
theorem b_cons (h1 : PS X st (tSt X.K C P cur W x)) (h2 : PSs X sts (tBk X.K C P cur W as)) : PSs X (st :: sts) (tBk X.K C P cur W (x :: as)) :=
  PSs.imp (pss_cons h1 h2) fun D σ H ⟨bb, s, rr, en, u, R, E, ev, post⟩ => by
    simp only [exB] at ev
    exact sq_seq (ex := fun e s => exS P cur x e s) R E ev post fun e1 s1 r1 H1 σ1 fx ev1 R1 E1 post1 => ⟨bb, s1, r1, e1, u, R1, E1, ev1, post1⟩
theorem s_exp (h : PE X e (tE X.K C P cur W a)) (hs : swapsWith e none pos.line X.env = pure false) : PS X (.Expr e pos) (tSt X.K C P cur W (.exp a)) :=
  PS.imp (ps_expr h hs) fun D σ H ⟨bb, s, rr, en, u, R, E, ev, post⟩ => by
    simp only [exS] at ev
    refine lft_seq (ev := fun e s => evE P cur a e s) (RP := RD X.K) R E ev post fun d s1 r1 H1 v fx ev1 R1 E1 q1 post1 => ?_
    cases ev1
    exact post1 r1 H1 σ (Fx.refl _ _) R1 E1
theorem s_ret (h : PE X e (tE X.K C P cur W a)) : PS X (.Return (some e) pos) (tSt X.K C P cur W (.ret a)) :=
  PS.imp (ps_ret h) fun D σ H ⟨bb, s, rr, en, u, R, E, ev, post⟩ => by
    simp only [exS] at ev
    refine lft_seq (ev := fun e s => evE P cur a e s) (RP := RD X.K) R E ev post fun d s1 r1 H1 v fx ev1 R1 E1 q1 post1 => ?_
    cases ev1
    exact post1 r1 H1 v (Fx.refl _ _) R1 q1
theorem set_read {K : PySem.W.Frag} {t : Tg} {D : Ends} {σ : Sl} {H : Hp} (h : tSt K C P cur W (.set t a) D σ H) : tE K C P cur W a σ H fun v H1 => gTgM K t v σ H1 D.nx := by
  obtain ⟨bb, s, rr, en, u, R, E, ev, post⟩ := h
  simp only [exS] at ev
  refine lft_seq (ev := fun e s => evE P cur a e s) (RP := RD K) R E ev post fun d s1 r1 H1 v fx ev1 R1 E1 q1 post1 => ?_
  split at ev1
  · rename_i e1 hb
    cases ev1
    exact bindM_ok hb R1 q1 E1 fun vs E2 => post1 r1 H1 _ (Fx.refl _ _) R1 E2
  · cases ev1
theorem s_set {i : Nat} {n : Str} {py : Pos} (hN : X.N.Nodup) (hi : X.N[i]? = some n) (hx : Loc X.env.scope n) (h : PE X e (tE X.K C P cur W a)) (hs : swapsWith e (some (.Name n py)) pos.line X.env = pure false) (hf : X.fn n = true ∨ X.env.scope.names.lookup n = some .local) :
    PS X (.Assign [.Name n py] e pos) (tSt X.K C P cur W (.set (.nm i) a)) :=
  PS.imp (ps_set hN hi hx h hs hf) fun D σ H q => set_read q
theorem s_tup {t : Tg} {tg : Expr} (h : PE X e (tE X.K C P cur W a)) (hg : PG X tg (gTgM X.K t)) (hs : swapsWithSole [tg] e pos.line X.env = pure false) (hw : swappedStores [tg] e X.env = pure none) (h1 : (assignEach [tg] X.env).map (·.2) = [assign tg X.env]) :
    PS X (.Assign [tg] e pos) (tSt X.K C P cur W (.set t a)) :=
  PS.imp (ps_asg h hg hs hw h1) fun D σ H q => set_read q
theorem par_read {K : PySem.W.Frag} {is : List Nat} {es : List CE} {D : Ends} {σ : Sl} {H : Hp} (h : tSt K C P cur W (.par is es) D σ H) : tL K C P cur W es σ H fun vs H1 => vs.length = is.length ∧ D.nx (setV is vs σ) H1 := by
  obtain ⟨bb, s, rr, en, u, R, E, ev, post⟩ := h
  simp only [exS] at ev
  refine lft_seq (ev := fun e s => evL P cur es e s) (RP := RDL K) R E ev post fun ds s1 r1 H1 vs fx ev1 R1 E1 q1 post1 => ?_
  split at ev1
  · rename_i e1 hb
    cases ev1
    obtain ⟨E2, hl⟩ := setAll_ok hb q1 E1
    exact ⟨hl, post1 r1 H1 _ (Fx.refl _ _) R1 E2⟩
  · cases ev1
theorem s_par2 {i j : Nat} {es : List CE} {n m : Str} {v1 v2 : Expr} {px py pt pt2 : Pos} {kt k2 : Nat} (hc : X.calm = true) (hN : X.N.Nodup) (hi : X.N[i]? = some n) (hj : X.N[j]? = some m) (hij : i ≠ j) (hx : X.env.scope.names.lookup n = some .local) (hy : X.env.scope.names.lookup m = some .local)
    (ha : PA X [v1, v2] (tL X.K C P cur W es)) (hw : swappedStores [.Tuple [.Name n px, .Name m py] kt pt] (.Tuple [v1, v2] k2 pt2) X.env = pure (some [n, m])) (hs : swapsWithSole [.Tuple [.Name n px, .Name m py] kt pt] (.Tuple [v1, v2] k2 pt2) pos.line X.env = pure false) :
    PS X (.Assign [.Tuple [.Name n px, .Name m py] kt pt] (.Tuple [v1, v2] k2 pt2) pos) (tSt X.K C P cur W (.par [i, j] es)) :=
  PS.imp (ps_par hc hN hi hj hij hx hy ha hw hs) fun D σ H q => by
    obtain ⟨bb, s, rr, en, u, R, E, ev, post⟩ := par_read q
    refine ⟨bb, s, rr, en, u, R, E, ev, ?_⟩
    cases u with
    | ex c fs s1 => exact post
    | ok ds s1 =>
      intro r1 H1 vs fx R1 q1
      obtain ⟨hl, k⟩ := post r1 H1 vs fx R1 q1
      match vs, hl with
      | [v, w], _ => exact ⟨v, w, rfl, k⟩
theorem s_parT {is : List Nat} {es : List CE} {ts vs : List Expr} {pt pt2 : Pos} {kt k2 : Nat} (ha : PA X vs (tL X.K C P cur W es)) (hg : PG X (.Tuple ts kt pt) (gTg X.K (.tp is))) (hw : swappedStores [.Tuple ts kt pt] (.Tuple vs k2 pt2) X.env = pure none) (hz : is.length ≤ sizeLine) :
    PS X (.Assign [.Tuple ts kt pt] (.Tuple vs k2 pt2) pos) (tSt X.K C P cur W (.par is es)) :=
  PS.imp (ps_asg (pe_tup ha) hg rfl hw rfl) fun D σ H q => by
    obtain ⟨bb, s, rr, en, u, R, E, ev, post⟩ := q
    simp only [exS] at ev
    refine lft_seq (ev := fun e s => evL P cur es e s) (RP := RDL X.K) R E ev post fun ds s1 r1 H1 xs fx ev1 R1 E1 q1 post1 => ?_
    split at ev1
    · rename_i e1 hb
      cases ev1
      obtain ⟨E2, hl⟩ := setAll_ok hb q1 E1
      refine ⟨by omega, fun p hp => ⟨p, xs, rfl, .inl (.inl upd_same), hl, ?_⟩⟩
      exact post1 r1 _ _ (Fx.new hp) (R1.new hp) (E2.mono (Fx.new hp))
    · cases ev1
theorem s_setLc {i : Nat} {y : Str} {py spos : Pos} {tg : Tg} {k : ITk} {src ifs : List CE} {elt : CE} {own : List Nat} {ownp : List (Str × Nat)} {et it el : Expr} {eifs : List Expr} {scope : Scope} (xg : C.xg = none) (hc : X.calm = true) (hN : X.N.Nodup) (fu : P.fu ≤ sizeLine) (hy : X.N[i]? = some y) (hyl : X.env.scope.names.lookup y = some .local)
    (hsw : swapsWith (.ListComp el [⟨et, it, eifs, 0⟩] scope pos) (some (.Name y py)) spos.line X.env = pure true) (hi : PI X et it (tI X.K C P cur W k src)) (ok : BlkOk X.N X.env.scope scope ownp) (ho : ownp.map (·.2) = own) (hsub : ∀ i ∈ tg.slots, i ∈ own)
    (hg : ∀ (s : Shared) (H : Hp) (c : Addr) (cl : List (Str × Addr)) (fp : List Addr), PG (X.blk s H scope (compEnvC scope cl c X.env) fp) et (gTg X.K tg))
    (ht : ∀ (s : Shared) (H : Hp) (c : Addr) (cl : List (Str × Addr)) (fp : List Addr), PTs (X.blk s H scope (compEnvC scope cl c X.env) fp) eifs (tIf X.K C P ifs))
    (he : ∀ (s : Shared) (H : Hp) (c : Addr) (cl : List (Str × Addr)) (fp : List Addr), PE (X.blk s H scope (compEnvC scope cl c X.env) fp) el (tE X.K C P none W0 elt)) (hs : ∀ x, foldedSetIterable it X.env x = pure x) :
    PS X (.Assign [.Name y py] (.ListComp el [⟨et, it, eifs, 0⟩] scope pos) spos) (tSt X.K C P cur W (.set (.nm i) (.lc tg k src ifs elt own))) :=
  PS.imp (ps_setLc hc hN hy hyl hsw hi ok hg ht he hs) fun D σ H q => by
    rw [ho]
    exact lc_read xg fu hsub (set_read q)
theorem s_setLc2 {i : Nat} {y : Str} {py spos : Pos} {tg tg2 : Tg} {k k2 : ITk} {src ifs src2 ifs2 : List CE} {elt : CE} {own own2 : List Nat} {ownp : List (Str × Nat)} {et it el et2 it2 : Expr} {eifs eifs2 : List Expr} {scope : Scope} (xg : C.xg = none) (hc : X.calm = true) (hN : X.N.Nodup) (fu : P.fu ≤ sizeLine) (hy : X.N[i]? = some y) (hyl : X.env.scope.names.lookup y = some .local)
    (hsw : swapsWith (.ListComp el [⟨et, it, eifs, 0⟩, ⟨et2, it2, eifs2, 0⟩] scope pos) (some (.Name y py)) spos.line X.env = pure true) (hi : PI X et it (tI X.K C P cur W k src)) (ok : BlkOk X.N X.env.scope scope ownp) (ho : ownp.map (·.2) = own) (hsub : ∀ i ∈ tg.slots, i ∈ own) (hsub2 : ∀ i ∈ tg2.slots, i ∈ own2) (hv : ∀ i ∈ own2, i ∈ own)
    (hg : ∀ (s : Shared) (H : Hp) (c : Addr) (cl : List (Str × Addr)) (fp : List Addr), PG (X.blk s H scope (compEnvC scope cl c X.env) fp) et (gTg X.K tg))
    (ht : ∀ (s : Shared) (H : Hp) (c : Addr) (cl : List (Str × Addr)) (fp : List Addr), PTs (X.blk s H scope (compEnvC scope cl c X.env) fp) eifs (tIf X.K C P ifs))
    (hi2 : ∀ (s : Shared) (H : Hp) (c : Addr) (cl : List (Str × Addr)) (fp : List Addr), PI (X.blk s H scope (compEnvC scope cl c X.env) fp) et2 it2 (tI X.K C P none W0 k2 src2))
    (hg2 : ∀ (s : Shared) (H : Hp) (c : Addr) (cl : List (Str × Addr)) (fp : List Addr), PG (X.blk s H scope (compEnvC scope cl c X.env) fp) et2 (gTg X.K tg2))
    (ht2 : ∀ (s : Shared) (H : Hp) (c : Addr) (cl : List (Str × Addr)) (fp : List Addr), PTs (X.blk s H scope (compEnvC scope cl c X.env) fp) eifs2 (tIf X.K C P ifs2))
    (he : ∀ (s : Shared) (H : Hp) (c : Addr) (cl : List (Str × Addr)) (fp : List Addr), PE (X.blk s H scope (compEnvC scope cl c X.env) fp) el (tE X.K C P none W0 elt)) (hs : ∀ x, foldedSetIterable it X.env x = pure x) (hs2 : ∀ env x, foldedSetIterable it2 env x = pure x) :
    PS X (.Assign [.Name y py] (.ListComp el [⟨et, it, eifs, 0⟩, ⟨et2, it2, eifs2, 0⟩] scope pos) spos) (tSt X.K C P cur W (.set (.nm i) (.lc2 tg k src ifs tg2 k2 src2 ifs2 elt own own2))) := by
  subst ho
  exact PS.imp (ps_setLc2 hc hN hy hyl hsw hi ok hv hg ht hi2 hg2 ht2 he hs hs2) fun D σ H q => lc2_read xg fu hsub hsub2 (set_read q)
def ipB (o : B2) (X : Cx) : Prop := PIp X o.op (fun x y H Q => ∃ (bb : List MO) (s s1 : HS bb) (i j : Int) (d : D), x = .int i ∧ y = .int j ∧ bin o (.int i) (.int j) s = some (.ok d s1) ∧ ∀ v, (∀ (K : PySem.W.Frag) r H, Rep K r H d v) → Q v H)
theorem ip_add' : ipB .add X := fun pins s σ H x y v u Q I r1 r2 ⟨bb, s0, s1, i, j, d, e1, e2, e3, q⟩ => ip_add pins s σ H x y v u Q I r1 r2 ⟨i, j, e1, e2, by
  cases e3
  exact q _ fun _ _ _ => rfl⟩
theorem ip_sub' : ipB .sub X := fun pins s σ H x y v u Q I r1 r2 ⟨bb, s0, s1, i, j, d, e1, e2, e3, q⟩ => ip_sub pins s σ H x y v u Q I r1 r2 ⟨i, j, e1, e2, by
  cases e3
  exact q _ fun _ _ _ => rfl⟩
theorem ip_mul' : ipB .mul X := fun pins s σ H x y v u Q I r1 r2 ⟨bb, s0, s1, i, j, d, e1, e2, e3, q⟩ => by
  subst e1 e2
  obtain ⟨t, rfl⟩ := r1
  obtain ⟨t', rfl⟩ := r2
  simp only [bin] at e3
  split at e3
  · rename_i hm
    cases e3
    exact PySem.P.imul_int ⟨.int _, H, I.tok _, ⟨_, rfl⟩, q _ fun _ _ _ => rfl⟩ (mulOk_ok hm)
  · cases e3
theorem s_aug {i : Nat} {n : Str} {o : B2} {py : Pos} (hN : X.N.Nodup) (hi : X.N[i]? = some n) (hx : Loc X.env.scope n) (h : PE X e (tE X.K C P cur W a)) (ho : ipB o X) (hf : X.fn n = true ∨ X.env.scope.names.lookup n = some .local) :
    PS X (.AugAssign (.Name n py) o.op e pos) (tSt X.K C P cur W (.aug i o a)) :=
  PS.imp (ps_aug hN hi hx h ho hf) fun D σ H ⟨bb, s, rr, en, u, R, E, ev, post⟩ => by
    simp only [exS] at ev
    split at ev
    · rename_i x hx0
      obtain ⟨v, e1, e2⟩ := E.2.1 i x hx0
      refine ⟨v, e1, ?_⟩
      refine lft_seq (ev := fun e s => evE P cur a e s) (RP := RD X.K) R E ev post fun y s1 r1 H1 w fx ev1 R1 E1 q1 post1 => ?_
      split at ev1
      · rename_i i1 j1
        cases hb : bin o (.int i1) (.int j1) s1 with
        | none => rw [hb] at ev1; cases ev1
        | some o1 =>
          obtain ⟨d, s2, rfl⟩ : ∃ d s2, o1 = .ok d s2 := by
            cases o1 with
            | ok d s2 => exact ⟨d, s2, rfl⟩
            | ex c fs s2 => exact (bin_noex hb).elim
          rw [hb] at ev1
          cases ev1
          have es : s2 = s1 := by
            have := hb
            cases o <;> simp only [bin] at this <;> first
              | (split at this <;> first | (cases this; rfl) | cases this)
              | (cases this; rfl)
          subst es
          refine ⟨bb, s2, s2, i1, j1, d, e2, q1, hb, fun v2 hv => ?_⟩
          exact post1 r1 H1 _ (Fx.refl _ _) R1 (E1.set i (hv _ _ _))
      · cases ev1
    · cases ev
def rSetX (ω : World) (K : PySem.W.Frag) : V → V → V → Hp → (Hp → Prop) → Prop := fun o i v H Q => rSetL o i v H Q ∨ ∃ a, o = .ref a ∧ PutD ω K a i v H Q
theorem set_any {ω : World} (hw : ω = X.w) (hu : X.A.units + 128 < cLine) : PSet X (rSetX ω X.K) := by
  subst hw
  intro pins s σ H o i v ov iv u Q I ro ri rv h
  rcases h with h | ⟨a, rfl, h⟩
  · exact set_list pins s σ H o i v ov iv u Q I ro ri rv h
  · cases ro
    obtain ⟨r, k, ep, xs, kvs, hk, rk, hD, n, t, hl, nx⟩ := h
    obtain ⟨DX, hm, hz⟩ := dct_x I hD n t
    have hlen : (stA xs (kD k) iv u).length ≤ sizeLine := by
      have e := stA_len xs (kD k) iv u
      rw [RepKV.length t] at e
      omega
    exact setItem_any (by omega) (key_at I hk rk ri) DX hz fun h' D' sb => ⟨_, dct_set I hD hm hlen D' sb, nx iv u ri rv⟩
theorem s_sub (hw : C.w = X.w) (hu : X.A.units + 128 < cLine) {eo ei : Expr} {tp : Pos} (ho : PE X eo (tE X.K C P cur W a)) (hi : PE X ei (tE X.K C P cur W b)) (he : PE X e (tE X.K C P cur W c)) (hs : swapsWithSole [.Subscript eo ei tp] e pos.line X.env = pure false) (hn : notSl ei = true) :
    PS X (.Assign [.Subscript eo ei tp] e pos) (tSt X.K C P cur W (.sub a b c)) := by
  have hg : PG X (.Subscript eo ei tp) (gSub (tE X.K C P cur W a) (tE X.K C P cur W b) (rSetX C.w X.K)) := pg_sub ho hi (set_any hw hu) fun v => by
    cases ei with
    | Slice x y z p =>
      cases z with
      | none => cases hn
      | some z => rfl
    | _ => rfl
  refine PS.imp (ps_asg he hg hs rfl rfl) fun D σ H ⟨bb, s, rr, en, u, R, E, ev, post⟩ => ?_
  simp only [exS] at ev
  refine lft_seq (ev := fun e s => evE P cur c e s) (RP := RD X.K) R E ev post fun v s1 r1 H1 vv fx1 ev1 R1 E1 q1 post1 => ?_
  refine lft_seq (ev := fun e s => evE P cur a e s) (RP := RD X.K) R1 E1 ev1 post1 fun x s2 r2 H2 vx fx2 ev2 R2 E2 q2 post2 => ?_
  refine lft_seq (ev := fun e s => evE P cur b e s) (RP := RD X.K) R2 E2 ev2 post2 fun y s3 r3 H3 vy fx3 ev3 R3 E3 q3 post3 => ?_
  split at ev3
  · rename_i s4 hset
    cases ev3
    have fx13 := fx2.trans fx3
    have qv := Rep.mono fx13.pre fx13.ext _ _ q1
    have qx := Rep.mono fx3.pre fx3.ext _ _ q2
    simp only [PV.setItem] at hset
    split at hset
    · rename_i p
      split at hset
      · rename_i xs hm
        split at hset
        · rename_i k
          split at hset
          · rename_i j hj
            cases hset
            obtain ⟨aa, w, ha, rfl⟩ := qx
            cases q3
            obtain ⟨hw, vs, hH, ht⟩ := R3.obj p _ aa w hm ha
            have hw' : w = true := hw
            subst hw'
            refine .inl ⟨aa, vs, k, j, rfl, rfl, hH, by rw [RepL.length ht]; exact hj, ?_⟩
            have hx := Ext.upd (u := .lst (vs.set j vv)) hH rfl
            refine post3 r3 _ σ (Fx.upd hH rfl (List.mem_of_getElem? ha)) (R3.set rfl ha ⟨_, upd_same, ?_⟩) (E3.mono (Fx.upd hH rfl (List.mem_of_getElem? ha)))
            exact RepL.set j (RepL.mono List.prefix_rfl hx _ _ ht) (Rep.mono List.prefix_rfl hx _ _ qv)
          · cases hset
        · cases hset
      · rename_i ep kvs hm
        split at hset
        · rename_i hck
          cases hset
          rw [Bool.and_eq_true] at hck
          have hlen := sizeOk_le hck.2
          obtain ⟨aa, w, ha, rfl⟩ := qx
          obtain ⟨hw', xs, hH, n, t⟩ := R3.obj p _ aa w hm ha
          have hw'' : w = true := hw'
          subst hw''
          refine .inr ⟨aa, rfl, r3, y, ep, xs, kvs, hck.1, q3, hH, n, t, by omega, fun ua va ra rb => ?_⟩
          have ex := Ext.upd (u := DctO C.w aa (epA ep xs (kD y)) (stA xs (kD y) ua va)) hH rfl
          refine post3 r3 _ σ (Fx.upd hH rfl (List.mem_of_getElem? ha)) (R3.set rfl ha ⟨stA xs (kD y) ua va, ?_, ?_, ?_⟩) (E3.mono (Fx.upd hH rfl (List.mem_of_getElem? ha)))
          · rw [← t.ep]
            exact upd_same
          · unfold stA
            cases hfi : fiA xs (kD y) with
            | some j =>
              have e : (xs.modify j fun x => (x.1, x.2.1, va)).map (·.1) = xs.map (·.1) := by
                refine (map_modify' (fun x : DE => x.1) (fun x => (x.1, x.2.1, va)) id (fun _ => rfl) xs j).trans ?_
                simp
              rw [e]
              exact n
            | none =>
              rw [List.map_append, List.nodup_append]
              refine ⟨n, by simp, fun a ha b hb' => ?_⟩
              have e : b = kD y := by simpa using hb'
              rw [e]
              exact fun zz => fiA_no hfi (zz ▸ ha)
          · exact (RepKV.mono List.prefix_rfl ex _ _ t).put hck.1 ra (Rep.mono List.prefix_rfl ex _ _ q3) rb (Rep.mono List.prefix_rfl ex _ _ qv)
        · cases hset
      · cases hset
    · cases hset
  · cases ev3
theorem s_fset {k : Nat} {f : Str} (cl : ClAt P C k X) {eo : Expr} {tp : Pos} (ho : PE X eo (tE X.K C P cur W a)) (he : PE X e (tE X.K C P cur W c)) (hs : swapsWith e (some (.Attribute eo f tp)) pos.line X.env = pure false) : PS X (.Assign [.Attribute eo f tp] e pos) (tSt X.K C P cur W (.fset a f c)) := by
  refine PS.imp (ps_fld ho he hs) fun D σ H ⟨bb, s, rr, en, u, R, E, ev, post⟩ => ?_
  simp only [exS] at ev
  refine lft_seq (ev := fun e s => evE P cur c e s) (RP := RD X.K) R E ev post fun v s1 r1 H1 vv fx1 ev1 R1 E1 q1 post1 => ?_
  refine lft_seq (ev := fun e s => evE P cur a e s) (RP := RD X.K) R1 E1 ev1 post1 fun x s2 r2 H2 vx fx2 ev2 R2 E2 q2 post2 => ?_
  split at ev2
  · rename_i p
    split at ev2
    · rename_i cc fs hm
      split at ev2
      · rename_i hck
        cases ev2
        rw [Bool.and_eq_true, decide_eq_true_eq] at hck
        obtain ⟨aa, w, ha, rfl⟩ := q2
        obtain ⟨hw', dx, fv, hH, t⟩ := R2.obj p _ aa w hm ha
        have hw'' : w = true := hw'
        subst hw''
        obtain ⟨cls, na⟩ := cl.fd cc f hck.1
        refine ⟨aa, _, dx, fv, rfl, hH, cls, na, by rw [t.length]; exact hck.2, ?_⟩
        have ex := Ext.upd (u := .ins (He.ga X.K cc) dx (putF f vv fv)) hH rfl
        refine post2 r2 _ σ (Fx.upd hH rfl (List.mem_of_getElem? ha)) (R2.set rfl ha ⟨dx, _, upd_same, ?_⟩) (E2.mono (Fx.upd hH rfl (List.mem_of_getElem? ha)))
        exact RepF.put (Rep.mono List.prefix_rfl ex _ _ (Rep.mono fx2.pre fx2.ext _ _ q1)) (RepF.mono List.prefix_rfl ex _ _ t)
      · cases ev2
    · cases ev2
  · cases ev2
theorem s_wall {st : Stmt} : PS X st (tSt X.K C P cur W .wall) := ⟨fun pins s0 σ H D I ⟨bb, s, rr, en, u, R, E, ev, post⟩ => by cases ev⟩
theorem s_ite (hc : PT X e (tT X.K C P cur W c)) (ha : PSs X sts (tBk X.K C P cur W as)) (hb : PSs X stt (tBk X.K C P cur W bs)) : PS X (.If e sts stt pos) (tSt X.K C P cur W (.ite c as bs)) :=
  PS.imp (ps_if hc ha hb) fun D σ H ⟨bb, s, rr, en, u, R, E, ev, post⟩ => by
    simp only [exS] at ev
    refine lft_seq (ev := fun e s => tst (evE P cur c e s)) (RP := RBl) R E ev post fun t s1 r1 H1 v fx1 ev1 R1 E1 q1 post1 => ?_
    subst q1
    cases v with
    | true => exact iteT ⟨bb, s1, r1, en, u, R1, E1, ev1, post1⟩
    | false => exact iteF ⟨bb, s1, r1, en, u, R1, E1, ev1, post1⟩
theorem s_pass : PS X (.Pass pos) (tSt X.K C P cur W .pass) := PS.imp ps_pass fun D σ H ⟨bb, s, rr, en, u, R, E, ev, post⟩ => by
  simp only [exS] at ev
  cases ev
  exact post rr H σ (Fx.refl _ _) R E
theorem s_while (hp : PassesOwn (model X.prog X.w) X.A X.env X.xe) (hc : PT X e (tT X.K C P cur W c)) (hb : PSs X sts (tBk X.K C P cur W as)) : PS X (.While e sts [] pos) (tSt X.K C P cur W (.while_ c as)) :=
  PS.imp (ps_while hp hc hb) fun D σ H ⟨bb, s, rr, en, u, R, E, ev, post⟩ => by
    simp only [exS] at ev
    refine ⟨fun m σ' H' => ∃ (s' : HS bb) (r' : RA) (e' : Env), Rel C.w X.K r' s'.M H' ∧ EnvR C X.K r' H' e' σ' ∧ whL (fun e1 s1 => tst (evE P cur c e1 s1)) (fun e1 s1 => exB P cur as e1 s1) m e' s' = some u ∧ PostS X.K C W r' H' u D, ⟨P.fu, s, rr, en, R, E, ev, post⟩, ?_⟩
    rintro m σ1 H1 ⟨s1, r1, e1, R1, E1, ev1, post1⟩
    cases m with
    | zero => cases ev1
    | succ m =>
      simp only [whL] at ev1
      refine lft_seq (ev := fun e s => tst (evE P cur c e s)) (RP := RBl) R1 E1 ev1 post1 fun t s2 r2 H2 v fx2 ev2 R2 E2 q2 post2 => ?_
      subst q2
      cases v with
      | true =>
        refine iteT ⟨fun σ' H' => ∃ (s' : HS bb) (r' : RA) (e' : Env), Rel C.w X.K r' s'.M H' ∧ EnvR C X.K r' H' e' σ' ∧ whL (fun e1 s1 => tst (evE P cur c e1 s1)) (fun e1 s1 => exB P cur as e1 s1) m e' s' = some u ∧ PostS X.K C W r' H' u D,
          fun σ' H' h => ⟨m, Nat.lt_succ_self _, h⟩, ?_⟩
        obtain ⟨b2, s3, r3, e3, u3, R3, E3, ev3, post3⟩ := sq_seq (ex := fun e s => exB P cur as e s) (D := D) (u := fun D σ' H' => ∃ (s' : HS bb) (r' : RA) (e' : Env), Rel C.w X.K r' s'.M H' ∧ EnvR C X.K r' H' e' σ' ∧ whL (fun e1 s1 => tst (evE P cur c e1 s1)) (fun e1 s1 => exB P cur as e1 s1) m e' s' = some u ∧ PostS X.K C W r' H' u D) R2 E2 ev2 post2
          fun e3 s3 r3 H3 σ3 fx3 ev3 R3 E3 post3 => ⟨s3, r3, e3, R3, E3, ev3, post3⟩
        refine ⟨b2, s3, r3, e3, u3, R3, E3, ev3, ?_⟩
        cases u3 <;> exact post3
      | false =>
        refine iteF ?_
        cases ev2
        exact post2 r2 H2 σ1 (Fx.refl _ _) R2 E2
theorem s_for {t : Tg} {k : ITk} {src : List CE} {tg it : Expr} (hp : PassesOwn (model X.prog X.w) X.A X.env X.xe) (hc : X.calm = true) (hi : PI X tg it (tI X.K C P cur W k src)) (hg : PG X tg (gTg X.K t)) (hb : PSs X sts (tBk X.K C P cur W as)) (hs : ∀ x, foldedSetIterable it X.env x = pure x) :
    PS X (.For tg it sts [] pos) (tSt X.K C P cur W (.for_ t k src as)) :=
  PS.imp (ps_for hp hc hi hg hb hs) fun D σ H ⟨bb, s, rr, en, u, R, E, ev, post⟩ => by
    simp only [exS] at ev
    refine lft_seq (ev := fun e s => bnd (evL P cur src e s) fun xs s1 => srcR k xs s1) (RP := fun r H sr J => JOk C.w X.K J sr r H) R E ev post fun sr s1 r1 H1 J fx1 ev1 R1 E1 jok post1 => ?_
    refine ⟨fun i m σ' H' => ∃ (s' : HS bb) (r' : RA) (e' : Env), Fx C.tb r1 H1 r' H' ∧ Rel C.w X.K r' s'.M H' ∧ EnvR C X.K r' H' e' σ' ∧ forL sr.at (fun d e1 s2 => (match t.bind d e1 with
        | none => none
        | some e2 => exB P cur as e2 s2)) m i e' s' = some u ∧ PostS X.K C W r' H' u D, ⟨P.fu, s1, r1, en, Fx.refl _ _, R1, E1, ev1, post1⟩, ?_⟩
    rintro i m σ2 H2 ⟨s2, r2, e2, fx2, R2, E2, ev2, post2⟩
    cases m with
    | zero => cases ev2
    | succ m =>
      simp only [forL] at ev2
      split at ev2
      · cases ev2
      · rename_i hat
        cases ev2
        exact .inl ⟨(jok bb s2 r2 H2 i fx2.gx R2).1 hat, post2 r2 H2 σ2 (Fx.refl _ _) R2 E2⟩
      · rename_i d hat
        obtain ⟨go, yld⟩ := (jok bb s2 r2 H2 i fx2.gx R2).2 d hat
        refine .inr ⟨go, fun σ' H' => ∃ (s' : HS bb) (r' : RA) (e' : Env), Fx C.tb r1 H1 r' H' ∧ Rel C.w X.K r' s'.M H' ∧ EnvR C X.K r' H' e' σ' ∧ forL sr.at (fun d e1 s2 => (match t.bind d e1 with
          | none => none
          | some e2 => exB P cur as e2 s2)) m (i + 1) e' s' = some u ∧ PostS X.K C W r' H' u D, fun σ' H' h => ⟨m, Nat.lt_succ_self _, h⟩, fun x H3 hy => ?_⟩
        obtain ⟨same, qx⟩ := yld x H3 hy
        have fx3 : Fx C.tb r2 H2 r2 H3 := Fx.same same
        have R3 : Rel C.w X.K r2 s2.M H3 := R2.same same
        have E3 := E2.mono fx3
        have post3 := post2.mono fx3
        cases hbd : t.bind d e2 with
        | none => simp only [hbd] at ev2; cases ev2
        | some e3 =>
          simp only [hbd] at ev2
          refine bind_ok hbd qx E3 fun vs E4 => ?_
          obtain ⟨b5, s5, r5, e5, u5, R5, E5, ev5, post5⟩ := sq_seq (ex := fun e s => exB P cur as e s) (D := D) (u := fun D σ' H' => ∃ (s' : HS bb) (r' : RA) (e' : Env), Fx C.tb r1 H1 r' H' ∧ Rel C.w X.K r' s'.M H' ∧ EnvR C X.K r' H' e' σ' ∧ forL sr.at (fun d e1 s2 => (match t.bind d e1 with
            | none => none
            | some e2 => exB P cur as e2 s2)) m (i + 1) e' s' = some u ∧ PostS X.K C W r' H' u D) R3 E4 ev2 post3
            fun e6 s6 r6 H6 σ6 fx6 ev6 R6 E6 post6 => ⟨s6, r6, e6, (fx2.trans fx3).trans fx6, R6, E6, ev6, post6⟩
          refine ⟨b5, s5, r5, e5, u5, R5, E5, ev5, ?_⟩
          cases u5 <;> exact post5
end
end PV
set_option Elab.async false
set_option linter.all false
set_option autoImplicit false
set_option maxRecDepth 100000
set_option maxHeartbeats 4000000
namespace PV
open PySem PySem.Spec PyProof.Rows L2
def tMkF (C : Addr) (fl : List Str) (ta : TA) : L2.St → Hp → XK → Prop := fun σ H Q => ta σ H fun vs H1 => vs.length = fl.length ∧ ∀ d fv, H1 d = none → (∀ f, fv.lookup f = (fl.zip vs).lookup f) → Q (.ref C) (some d) (upd H1 d (.xd fv))
def MkC (X : Cx) (C : Addr) (x : Str) (fl : List Str) : Prop := Gl X x → ∀ (pn : List (Addr × Obj)) (xe : Value → Shared → Prop) (e : Expr) (es : List Expr) (ta : TA) (p pos : Pos), PA (X.tr pn xe) (e :: es) ta → starEach (e :: es) X.env = (false, eval e X.env) :: starEach es X.env →
  (backTo pos (starEach es X.env)).any (·.1) = false → PMk (X.tr pn xe) (.Call (.Name x p) (e :: es) [] pos) (tMkF C fl ta)
theorem zip_lookup {K : PySem.W.Frag} {r : RA} {H : Hp} {f : Str} {x : D} : ∀ {fl : List Str} {ds : List D} {vs : List V}, RepL K r H ds vs → (fl.zip ds).lookup f = some x → ∃ v, (fl.zip vs).lookup f = some v ∧ Rep K r H x v
  | [], ds, vs, _, h => by cases h
  | g :: fl, [], vs, _, h => by cases h
  | g :: fl, d :: ds, vs, t, h => by
    obtain ⟨v, vr, rfl, h1, h2⟩ := t
    simp only [List.zip_cons_cons, List.lookup_cons] at h ⊢
    split at h
    · cases h
      exact ⟨v, rfl, h1⟩
    · exact zip_lookup h2 h
section
variable {P : Ev} {C : Cn} {cur : Cur} {W : WX} {X : Cx} {as bs : List CS} {e : Expr} {sts stt : List Stmt} {pos : Pos}
theorem s_raise {cc : Nat} {es : List CE} (hc : X.calm = true) (tk : Takes X W) (he : PMk X e (tMkF (C.ad cc) (P.flds cc) (tL X.K C P cur W es))) : PS X (.Raise (some e) none pos) (tSt X.K C P cur W (.raise cc es)) :=
  PS.imp (L2.ps_raise hc tk he) fun D σ H ⟨bb, s, rr, en, u, R, E, ev, post⟩ => by
    simp only [exS] at ev
    refine lft_seq (ev := fun e s => evL P cur es e s) (RP := RDL X.K) R E ev post fun ds s1 r1 H1 vs fx1 ev1 R1 E1 q1 post1 => ?_
    split at ev1
    · rename_i hl
      cases ev1
      refine ⟨by rw [RepL.length q1]; exact of_decide_eq_true hl, fun d fv hd hf => ?_⟩
      refine post1 r1 _ (some d) σ (Fx.new hd) (R1.new hd) (E1.mono (Fx.new hd)) ⟨d, fv, rfl, upd_same, fun f x hx => ?_⟩
      obtain ⟨v, e1, e2⟩ := zip_lookup q1 hx
      exact ⟨v, by rw [hf]; exact e1, Rep.mono List.prefix_rfl (Ext.new hd) _ _ e2⟩
    · cases ev1
structure XcC (K : PySem.W.Frag) (P : Ev) (c : Nat) (A : Addr) : Prop where
  xf : XfC K A
  no : ∀ f ∈ P.flds c, PySem.W.findIn K (.ref A) f = some none
  is : ∀ y : Str, P.isx c y = true → ∃ t : String, y = (t : Str) ∧ bootBuiltins y = some (.type t) ∧ typeOf (.type t) = pure (.type "type") ∧ PySem.W.subIn K (.ref A) (.type t) = some true ∧ y ≠ "__name__" ∧ (y == ("__debug__" : Str)) = false
theorem x_f {a : Addr} {oe : Obj} {pn : List (Addr × Obj)} {i c : Nat} {dd : Option Addr} {fs : List (Str × D)} (T : XcC X.K P c (C.ad c)) (hz : Zc (.ref (C.ad c)) dd oe) (hf : ∃ vs, oe.data = .fields vs) {j : Nat} {f n : Str} {p p' : Pos} (hj : X.N[j]? = some n) (hv : Vis X.env.scope n) (ho : okN n = true) :
    PE (X.suite a ((a, oe) :: pn)) (.Attribute (.Name n p) f p') (tE X.K ⟨C.w, C.ad, C.tb, some (i, a, dd, fs)⟩ P (some (i, c, fs)) W (.excf j f)) := by
  refine ⟨fun pins s σ H Q I h => ?_⟩
  obtain ⟨bb, s0, rr, en, u, R, E, ev, post⟩ := h
  simp only [evE] at ev
  split at ev
  · rename_i hh
    obtain ⟨rfl, hfl⟩ := hh
    obtain ⟨o1, o2, o3⟩ := okN_of ho
    split at ev
    · rename_i hen
      split at ev
      · rename_i d hl
        cases ev
        obtain ⟨hs, dx, fv, e1, e2, e3⟩ := E.2.2.1 _ _ _ _ rfl
        obtain ⟨v, e4, e5⟩ := e3 f d hl
        refine (pe_xf (X := X) (C := C.ad c) (pn := pn) (pos := p') T.xf (T.no f hfl) hz hf (pe_var (X := X.suite a ((a, oe) :: pn)) (pos := p) hj hv o1 o2) rfl).run pins s σ H Q I ?_
        exact ⟨.ref a, hs hen, rfl, rfl, dx, fv, v, e1, e2, e4, post rr H v (Fx.refl _ _) R e5⟩
      · cases ev
    · cases ev
  · cases ev
theorem cr_isx {a A : Addr} {oe : Obj} {pn : List (Addr × Obj)} {t : String} (hz : oe.cls = .ref A) (hty : typeOf (.type t) = pure (.type "type")) (hs : PySem.W.subIn X.K (.ref A) (.type t) = some true) :
    CallR (X.suite a ((a, oe) :: pn)) (.builtin "isinstance") (fun xs H Q => xs = [.ref a, .ty t] ∧ Q (.bl true) H) := by
  intro pins s σ H xs us Q I rs h
  obtain ⟨rfl, q⟩ := h
  cases rs with
  | cons rx rr =>
    cases rr with
    | cons rt rr =>
      cases rr
      cases rx
      cases rt
      obtain ⟨hget, _⟩ := I.pin (a, oe) (List.mem_append.mpr (.inl List.mem_cons_self))
      have L0 : PySem.W.Looks (model X.prog X.w) s.heap (typeOf (.ref a)) (.ref A) := fun A' Q' E' s' k q' => wpAny_typeOf_ref (k _ _ hget) (by rw [hz]; exact q')
      have L1 : PySem.W.Looks (model X.prog X.w) s.heap (isInstance (.ref a) (.type t)) true := L0.andThen (PySem.W.looks_subIn I.kIn hs)
      refine call_isinstance_of ?_ (fun z => nomatch z)
      unfold Builtin.«isinstance.nested»
      refine wpAny_bind (m := typeOf (.ref a)) (L0.here ?_)
      show wpAny _ _ (if (Value.ref A == Value.type t) = true then _ else _) _ _ s
      rw [if_neg (show ¬ ((Value.ref A == Value.type t) = true) from fun z => nomatch (beq_iff_eq.mp z))]
      refine wpAny_bind (m := typeOf (.type t)) (wpAny_of_eq hty ?_)
      show wpAny _ _ (if (Value.type "type" == Value.type "type") = true then _ else _) _ _ s
      rw [if_pos (by decide)]
      refine wpAny_bind (wpAny_bind (m := isType (.type t)) (wpAny_pure (a := true) ?_))
      refine wpAny_bind (m := isInstance (.ref a) (.type t)) (L1.here ?_)
      exact wpAny_pure (a := true) (wpAny_pure ⟨.bl true, H, I, rfl, q⟩)
theorem x_i {a : Addr} {oe : Obj} {pn : List (Addr × Obj)} {i c : Nat} {dd : Option Addr} {fs : List (Str × D)} (T : XcC X.K P c (C.ad c)) (hz : Zc (.ref (C.ad c)) dd oe) {j : Nat} {y n : Str} {p p1 p2 p' : Pos} (hj : X.N[j]? = some n) (hv : Vis X.env.scope n) (ho : okN n = true)
    (hg : Gl X "isinstance") (hg2 : Gl X y) (hm : X.mg "isinstance" = none) (hm2 : X.mg y = none) :
    PE (X.suite a ((a, oe) :: pn)) (.Call (.Name "isinstance" p) [.Name n p1, .Name y p2] [] p') (tE X.K ⟨C.w, C.ad, C.tb, some (i, a, dd, fs)⟩ P (some (i, c, fs)) W (.exci j y)) := by
  refine ⟨fun pins s σ H Q I h => ?_⟩
  obtain ⟨bb, s0, rr, en, u, R, E, ev, post⟩ := h
  simp only [evE] at ev
  split at ev
  · rename_i hh
    subst hh
    obtain ⟨o1, o2, o3⟩ := okN_of ho
    split at ev
    · rename_i hen
      split at ev
      · rename_i hx
        cases ev
        obtain ⟨hs, _⟩ := E.2.2.1 _ _ _ _ rfl
        obtain ⟨t, rfl, hv2, hty, hsub, hn2, hd2⟩ := T.is y hx
        have hb : PE (X.suite a ((a, oe) :: pn)) (.Name (t : Str) p2) (tC (.ty t)) := pe_bltn hg2 hm2 hv2 rfl hn2 hd2
        refine (pe_callB (X := X.suite a ((a, oe) :: pn)) (cr_isx hz.1 hty hsub) hg hm (by decide +kernel) (pa_cons (pe_var (X := X.suite a ((a, oe) :: pn)) (pos := p1) hj hv o1 o2) (pa_cons hb pa_nil) rfl) (by decide) (by decide) rfl rfl).run pins s σ H Q I ?_
        exact ⟨.ref a, hs hen, rfl, post rr H _ (Fx.refl _ _) R rfl⟩
      · cases ev
    · cases ev
  · cases ev
end
end PV
set_option Elab.async false
set_option linter.all false
set_option autoImplicit false
set_option maxRecDepth 100000
set_option maxHeartbeats 4000000
namespace PV
open PySem PySem.Spec PyProof.Rows L2
abbrev Cl3 := Value × Option Nat × (Addr → Value → Option Addr → TS)
def inS (i : Option Nat) (a : Addr) (σ : Sl) : Sl := match i with
  | some j => σ.set j (some (.ref a))
  | none => σ
def outS (i : Option Nat) (σ : Sl) : Sl := match i with
  | some j => σ.set j none
  | none => σ
def outD (i : Option Nat) (D : Ends) : Ends := { nx := fun t G => D.nx (outS i t) G, rt := D.rt, bk := fun t G => D.bk (outS i t) G, ct := fun t G => D.ct (outS i t) G }
def wCl (K : PySem.W.Frag) (Wo : WX) (D : Ends) : List Cl3 → WX
  | [] => Wo
  | (c, i, ts) :: more => fun cls d σ H => ∃ y, PySem.W.exmOne K cls c = some y ∧ (y = true → ∀ a, H a = none → ts a cls d (outD i D) (inS i a σ) H) ∧ (y = false → wCl K Wo D more cls d σ H)
inductive Cls3 (X : Cx) : List ExceptHandler → List Cl3 → Prop
  | nil : Cls3 X [] []
  | as {x n : Str} {c : Value} {i : Nat} {ts : Addr → Value → Option Addr → TS} {s0 : Stmt} {ss : List Stmt} {np hp : Pos} {hs : List ExceptHandler} {l : List Cl3} (hc : Names X x c) (hi : X.N[i]? = some n) (hl : X.env.kindOf n = some .local)
      (su : ∀ (a : Addr) (oe : Obj) (cls : Value) (d : Option Addr) (pn : List (Addr × Obj)), Zc cls d oe → (∃ vs, oe.data = .fields vs) → PSs (X.suite a ((a, oe) :: pn)) (s0 :: ss) (ts a cls d)) (more : Cls3 X hs l) :
      Cls3 X (.ExceptHandler (some (.Name x np)) (some n) (s0 :: ss) hp :: hs) ((c, some i, ts) :: l)
  | bare {x : Str} {c : Value} {ts : Addr → Value → Option Addr → TS} {s0 : Stmt} {ss : List Stmt} {np hp : Pos} {hs : List ExceptHandler} {l : List Cl3} (hc : Names X x c)
      (su : ∀ (a : Addr) (oe : Obj) (cls : Value) (d : Option Addr) (pn : List (Addr × Obj)), Zc cls d oe → (∃ vs, oe.data = .fields vs) → PSs (X.suite a ((a, oe) :: pn)) (s0 :: ss) (ts a cls d)) (more : Cls3 X hs l) :
      Cls3 X (.ExceptHandler (some (.Name x np)) none (s0 :: ss) hp :: hs) ((c, none, ts) :: l)
section
variable {X : Cx} {body : List Stmt} {h0 : ExceptHandler} {hs : List ExceptHandler} {l : List Cl3} {pos : Pos} {tb : WX → TS} {Wo : WX}
theorem frame_no {B : Heap} {a : Addr} {es : List PySem.Env} {g : Heap} {o : Obj} {vs : Array Value} (ff : g.FunFrames B es) (e : g.get? a = some o) (dd : o.data = .fields vs) : a ∉ frs es := fun hm => by
  obtain ⟨_, u, eu, nf⟩ := ff.mem hm
  rw [e] at eu
  cases eu
  exact nf _ dd
theorem ps_tryC (hst : X.stack = X.env :: X.outer) (hfm : X.env.frame = some X.env.locals) (hN : X.N.Nodup) (tk : Takes X Wo)
    (hb : ∀ (W : WX) (pn : List (Addr × Obj)) (xe : Value → Shared → Prop), Takes (X.tr pn xe) W → PassesOwn (model X.prog X.w) X.A X.env xe → PSs (X.tr pn xe) body (tb W)) (hh : Cls3 X (h0 :: hs) l) :
    PS X (.Try body (h0 :: hs) [] [] pos) (fun D σ H => tb (wCl X.K Wo D l) D σ H) := by
  refine ⟨fun pins s σ H D I hq => ?_⟩
  have K0 := I.ok
  have frm : X.A.frames = some (X.env :: X.outer) := by rw [K0.frames, hst]
  refine wpAny_Try_except ?_
  have hrun := fun xe ht hpo => (hb (wCl X.K Wo D l) (X.pn ++ pins) xe ht hpo).run [] s σ H D (I.toTry _) hq
  refine wpAny_mono (hrun (fun e s1 => wpAny (model X.prog X.w) X.A (noteFrame e X.env) (fun _ s2 => wpAny (model X.prog X.w) X.A (setFlight e none) (fun _ s3 => wpAny (model X.prog X.w) X.A (handleBy e X.env (h0 :: hs)) (SP X pins D) X.xe s3) X.xe s2) X.xe s1) (fun u t xx => ?_) PassesOwn.looking) (fun f s1 hsp => ?_) (fun _ _ z => z)
  · obtain ⟨a, B, sI, pins2, τ, G, cls, d, rfl, J0, nb, up, sky, na, os, ag, wish⟩ := xx
    have J : Inv X pins τ G sI := J0.ofTry K0
    have sk : Sky B (X.env :: X.outer) a (Zc cls d) X.env.locals t.heap := hst ▸ sky
    show wpAny (model X.prog X.w) X.A (noteFrame (.ref a) X.env) _ _ _
    refine Sky.land Zc.steady frm hfm sk fun g fl ug => ?_
    have Jg : Inv X pins τ G { t with heap := g } := J.landed nb fl.1 (up.trans ug) os ag
    obtain ⟨oe, vs, eo, zo, eod⟩ := fl.there
    have nfr := frame_no fl.2.2.1 eo eod
    have nL : a ≠ X.env.locals := fun z => nfr (List.mem_filterMap.mpr ⟨X.env, List.mem_cons_self, by rw [hfm, z]⟩)
    have nF : a ∉ X.fs := fun hm => by
      obtain ⟨e1, he1, q1⟩ := List.mem_filterMap.mp hm
      exact nfr (List.mem_filterMap.mpr ⟨e1, List.mem_cons_of_mem _ he1, q1⟩)
    have Sg := Jg.suite eo eod na nL nF
    have LT : PySem.W.Looks (model X.prog X.w) g (typeOf (.ref a)) cls := fun A Q E s2 k q => wpAny_typeOf_ref (k _ _ eo) (by rw [zo.1]; exact q)
    have test : ∀ {x : Str} {c : Value} {np : Pos} {Q : Value → Shared → Prop} {E : Value → Shared → Prop}, Names X x c → Q c { t with heap := g } → wpAny (model X.prog X.w) (X.A.mark (some (.ref a))) (eval (.Name x np) X.env) Q E { t with heap := g } := fun {x c np Q E} hc q => by
      obtain ⟨g1, g2, g3 | ⟨g3, g4, g5⟩⟩ := hc
      · exact ld_glob (X := X.suite a ((a, oe) :: (X.pn ++ pins))) Sg g1 g3 q g2
      · exact ld_blt (X := X.suite a ((a, oe) :: (X.pn ++ pins))) Sg g1 g3 g4 q g5 g2
    have walk : ∀ {hs2 : List ExceptHandler} {l2 : List Cl3}, Cls3 X hs2 l2 → wCl X.K Wo D l2 cls d τ G → wpAny (model X.prog X.w) X.A (handleBy (.ref a) X.env hs2) (SP X pins D) X.xe { t with heap := g } := by
      intro hs2 l2 hk
      induction hk with
      | nil =>
        intro w
        refine wpAny_handleBy_nil ?_
        obtain ⟨_, _, _, ob, _, T, _, _, e1, _, e2, e3, _⟩ := id fl
        unfold PySem.passOn
        refine wpAny_bind (wpAny_field e1 e2 e3 ?_)
        rw [if_neg (show ¬ ((Value.ref T == Value.none) = true) from by simp)]
        have out : wpAny (model X.prog X.w) X.A (setFlight (.ref a) X.env.frame) (fun _ s4 => wpAny (model X.prog X.w) X.A (throw (.ref a) : Sem Flow) (SP X pins D) X.xe s4) X.xe { t with heap := g } := by
          rw [hfm]
          refine HandSPX.setFlight_upZ fl fun g4 q4 u4 => wpAny_throw (tk _ _ ?_)
          exact ⟨a, B, sI, pins, τ, G, cls, d, rfl, J, nb, (up.trans ug).trans u4, .inr (.inr (by rw [hst]; exact q4)), na, os, ag, w⟩
        first
          | exact wpAny_bind (wpAny_pure (wpAny_bind out))
          | exact wpAny_bind out
      | @as x n c i ts s0 ss np hp hs3 l3 hc hi hl su more ih =>
        rintro ⟨y, hy, yes, no⟩
        refine wpAny_handleBy_cons (codeAny_handlers_test ?_) (by intro q; cases q)
        refine test hc ((PySem.W.exm_one (M := model X.prog X.w) Jg.kIn LT hy).here ?_)
        cases y with
        | false =>
          show wpAny _ X.A (handleBy (.ref a) X.env hs3) _ _ _
          exact ih (no rfl)
        | true =>
          refine codeAny_handlers_suite_as ?_
          refine HandSPX.lands_againZ fl fun g4 fl4 u4 => ?_
          have J4 : Inv X pins τ G { t with heap := g4 } := J.landed nb fl4.1 ((up.trans ug).trans u4) os ag
          obtain ⟨o4, _, e4, z4, d4⟩ := fl4.there
          have S4 := J4.suite e4 d4 na nL nF
          refine store_ok (X := X.suite a ((a, o4) :: (X.pn ++ pins))) (v := .ref a) S4 hN hi (.inl hl) rfl (fun s5 S5 => ?_) (.inr hl)
          refine wpAny_mono ((su a o4 cls d (X.pn ++ pins) z4 ⟨_, d4⟩).run [] s5 _ G _ S5 (yes rfl a na)) (fun f s6 hsp => ?_) (fun _ _ z => False.elim z)
          have gone : ∀ {τ6 : L2.St} {G6 : Hp} {Q : Shared → Prop}, Inv (X.suite a ((a, o4) :: (X.pn ++ pins))) [] τ6 G6 s6 → (∀ s7, Inv X pins (τ6.set i none) G6 s7 → Q s7) → wpAny (model X.prog X.w) X.A (do bindName X.env n .none; unbindBehindTheSuite X.env n hp) (fun _ s7 => Q s7) X.xe s6 :=
            fun {τ6 G6 Q} S6 k => gone_ok (S6.unsuite K0) hN hi hl k
          cases f with
          | next =>
            obtain ⟨τ6, G6, S6, q6⟩ := hsp
            exact gone S6 fun s7 J7 => ⟨_, _, J7, q6⟩
          | brk =>
            obtain ⟨τ6, G6, S6, q6⟩ := hsp
            exact gone S6 fun s7 J7 => ⟨_, _, J7, q6⟩
          | cont =>
            obtain ⟨τ6, G6, S6, q6⟩ := hsp
            exact gone S6 fun s7 J7 => ⟨_, _, J7, q6⟩
          | ret u =>
            obtain ⟨v6, τ6, G6, S6, r6, q6⟩ := hsp
            exact gone S6 fun s7 J7 => ⟨_, _, _, J7, r6, q6⟩
      | @bare x c ts s0 ss np hp hs3 l3 hc su more ih =>
        rintro ⟨y, hy, yes, no⟩
        refine wpAny_handleBy_cons (codeAny_handlers_test ?_) (by intro q; cases q)
        refine test hc ((PySem.W.exm_one (M := model X.prog X.w) Jg.kIn LT hy).here ?_)
        cases y with
        | false =>
          show wpAny _ X.A (handleBy (.ref a) X.env hs3) _ _ _
          exact ih (no rfl)
        | true =>
          refine codeAny_handlers_suite ?_
          refine HandSPX.lands_againZ fl fun g4 fl4 u4 => ?_
          have J4 : Inv X pins τ G { t with heap := g4 } := J.landed nb fl4.1 ((up.trans ug).trans u4) os ag
          obtain ⟨o4, _, e4, z4, d4⟩ := fl4.there
          have S4 := J4.suite e4 d4 na nL nF
          refine wpAny_mono ((su a o4 cls d (X.pn ++ pins) z4 ⟨_, d4⟩).run [] _ _ G _ S4 (yes rfl a na)) (fun f s6 hsp => ?_) (fun _ _ z => False.elim z)
          cases f with
          | next =>
            obtain ⟨τ6, G6, S6, q6⟩ := hsp
            exact ⟨_, _, S6.unsuite K0, q6⟩
          | brk =>
            obtain ⟨τ6, G6, S6, q6⟩ := hsp
            exact ⟨_, _, S6.unsuite K0, q6⟩
          | cont =>
            obtain ⟨τ6, G6, S6, q6⟩ := hsp
            exact ⟨_, _, S6.unsuite K0, q6⟩
          | ret u =>
            obtain ⟨v6, τ6, G6, S6, r6, q6⟩ := hsp
            exact ⟨_, _, _, S6.unsuite K0, r6, q6⟩
    exact walk hh wish
  · cases f with
    | next =>
      obtain ⟨τ, G, J, q⟩ := hsp
      exact wpAny_execs_nil ⟨τ, G, J.ofTry K0, q⟩
    | brk =>
      obtain ⟨τ, G, J, q⟩ := hsp
      exact ⟨τ, G, J.ofTry K0, q⟩
    | cont =>
      obtain ⟨τ, G, J, q⟩ := hsp
      exact ⟨τ, G, J.ofTry K0, q⟩
    | ret u =>
      obtain ⟨v, τ, G, J, r, q⟩ := hsp
      exact ⟨v, τ, G, J.ofTry K0, r, q⟩
end
end PV
set_option Elab.async false
set_option linter.all false
set_option autoImplicit false
set_option maxRecDepth 100000
set_option maxHeartbeats 4000000
namespace PV
open PySem PySem.Spec PyProof.Rows L2
structure Gs (T : Tb) (P : Ev) (C : Cn) (hot : Bool) (cur : Cur) (W : WX) (k : Nat) (X : Cx) : Prop where
  gd : Gd T P C hot cur W k X
  kind : X.env.scope.kind = .function
  fnx : ∀ y, X.fn y = true
  own : hot = false → PassesOwn (model X.prog X.w) X.A X.env X.xe
  stk : X.stack = X.env :: X.outer
  frm : X.env.frame = some X.env.locals
  mkx : hot = false → ∀ c x, T.cn c = some x → MkC X (C.ad c) x (P.flds c)
  mt : ∀ x, x ∈ T.xs → ∃ v, ((x == ("__debug__" : Str)) = false ∧ (X.mg x = some v ∨ (X.mg x = none ∧ bootBuiltins x = some v ∧ x ≠ "__name__"))) ∧ ∀ c b, P.mt c x = some b → PySem.W.exmOne X.K (.ref (C.ad c)) v = some b
  xc : ∀ c x b, P.mt c x = some b → XcC X.K P c (C.ad c)
section
variable {T : Tb} {P : Ev} {C : Cn} {hot : Bool} {cur : Cur} {W : WX} {k : Nat} {X : Cx} {pos : Pos}
theorem Gs.tr (G : Gs T P C false cur W k X) {W' : WX} {pn : List (Addr × Obj)} {xe : Value → Shared → Prop} (tk : Takes (X.tr pn xe) W') (hp : PassesOwn (model X.prog X.w) X.A X.env xe) : Gs T P C false cur W' k (X.tr pn xe) := by
  have hc := G.gd.cur0 rfl
  subst hc
  exact ⟨⟨G.gd.cw, G.gd.nd, G.gd.un, G.gd.gd, G.gd.fu, G.gd.gl, G.gd.fr, G.gd.calm, G.gd.room, G.gd.cur0, G.gd.xg0, tk, G.gd.low, G.gd.lam, G.gd.fn, fun _ _ _ _ _ _ _ _ => no_excf, fun _ _ _ _ _ _ _ _ _ _ _ _ _ _ => no_exci⟩, G.kind, G.fnx, fun _ => hp, G.stk, G.frm, fun _ => G.mkx rfl, G.mt, G.xc⟩
theorem Gs.suite (G : Gs T P C false cur W k X) {a : Addr} {oe : Obj} {pn : List (Addr × Obj)} {i c : Nat} {dd : Option Addr} {fs : List (Str × D)} (xc : XcC X.K P c (C.ad c)) (hz : Zc (.ref (C.ad c)) dd oe) (hf : ∃ vs, oe.data = .fields vs) :
    Gs T P ⟨C.w, C.ad, C.tb, some (i, a, dd, fs)⟩ true (some (i, c, fs)) W0 k (X.suite a ((a, oe) :: pn)) :=
  ⟨⟨G.gd.cw, G.gd.nd, G.gd.un, G.gd.gd, G.gd.fu, G.gd.gl, G.gd.fr, (fun z => by cases z), (fun z => by cases z), (fun z => by cases z), (fun z => by cases z), takes0, (fun _ z => by cases z), G.gd.lam, G.gd.fn,
    fun j f n p p' h1 h2 h3 => x_f (X := X) xc hz hf h1 h2 h3, fun j y n p p1 p2 p' h1 h2 h3 h4 h5 h6 h7 => x_i (X := X) xc hz h1 h2 h3 h4 h5 h6 h7⟩,
    G.kind, G.fnx, (fun z => by cases z), G.stk, G.frm, (fun z => by cases z), G.mt, G.xc⟩
theorem Gs.bare (G : Gs T P C false cur W k X) {a : Addr} {oe : Obj} {pn : List (Addr × Obj)} : Gs T P C true none W0 k (X.suite a ((a, oe) :: pn)) :=
  ⟨⟨G.gd.cw, G.gd.nd, G.gd.un, G.gd.gd, G.gd.fu, G.gd.gl, G.gd.fr, (fun z => by cases z), (fun z => by cases z), (fun z => by cases z), (fun z => by cases z), takes0, (fun _ z => by cases z), G.gd.lam, G.gd.fn,
    fun _ _ _ _ _ _ _ _ => no_excf, fun _ _ _ _ _ _ _ _ _ _ _ _ _ _ => no_exci⟩,
    G.kind, G.fnx, (fun z => by cases z), G.stk, G.frm, (fun z => by cases z), G.mt, G.xc⟩
def ClsOk (T : Tb) (P : Ev) (C : Cn) (W : WX) (X : Cx) (hs : List CH) (hds : List ExceptHandler) : Prop := ∃ l, Cls3 X hds l ∧ ∀ (D : Ends) (bb : List MO) (c1 : Nat) (fs : List (Str × PV.D)) (e1 : Env) (s1 : HS bb) (o : SR bb) (r : RA) (H : Hp) (dd : Option Addr) (σ : Sl),
  exH P c1 fs hs e1 s1 = some o → PostS X.K C W r H o D → Rel C.w X.K r s1.M H → EnvR C X.K r H e1 σ → XdR X.K r H fs dd → wCl X.K W D l (.ref (C.ad c1)) dd σ H
theorem cls_nil : ClsOk T P C W X [] [] := ⟨[], .nil, fun D bb c1 fs e1 s1 o r H dd σ ev post R E xd => by
  simp only [exH] at ev
  cases ev
  exact post r H dd σ (Fx.refl _ _) R E xd⟩
theorem cls_as {x n : Str} {i : Nat} {su : List CS} {hs : List CH} {hds : List ExceptHandler} {b₀ : Stmt} {ss : List Stmt} {np hp : Pos} (G : Gs T P C false cur W k X) (hi : X.N[i]? = some n) (hln : X.env.scope.names.lookup n = some .local) (hg : Gl X x) (hx : x ∈ T.xs)
    (hsu : ∀ (a : Addr) (oe : Obj) (pn : List (Addr × Obj)) (c : Nat) (dd : Option Addr) (fs : List (Str × D)), Gs T P ⟨C.w, C.ad, C.tb, some (i, a, dd, fs)⟩ true (some (i, c, fs)) W0 k (X.suite a ((a, oe) :: pn)) → PSs (X.suite a ((a, oe) :: pn)) (b₀ :: ss) (tBk X.K ⟨C.w, C.ad, C.tb, some (i, a, dd, fs)⟩ P (some (i, c, fs)) W0 su))
    (more : ClsOk T P C W X hs hds) : ClsOk T P C W X (.mk x (some i) su :: hs) (.ExceptHandler (some (.Name x np)) (some n) (b₀ :: ss) hp :: hds) := by
  obtain ⟨v, ⟨hdb, hv⟩, hmt⟩ := G.mt x hx
  obtain ⟨l, hl, hw⟩ := more
  have xg := G.gd.xg0 rfl
  refine ⟨(v, some i, fun a cls d D σ H => ∃ c fs, cls = .ref (C.ad c) ∧ P.mt c x = some true ∧ tBk X.K ⟨C.w, C.ad, C.tb, some (i, a, d, fs)⟩ P (some (i, c, fs)) W0 su D σ H) :: l, .as ⟨hg, hdb, hv⟩ hi hln (fun a oe cls d pn hz hf => ⟨fun pins s σ H D I ⟨c, fs, e1, e2, q⟩ => ?_⟩) hl, fun D bb c1 fs e1 s1 o r H dd σ ev post R E xd => ?_⟩
  · subst e1
    exact (hsu a oe pn c d fs (G.suite (G.xc c x true e2) hz hf)).run pins s σ H D I q
  · simp only [exH] at ev
    cases hm : P.mt c1 x with
    | none => rw [hm] at ev; cases ev
    | some y =>
      rw [hm] at ev
      refine ⟨y, hmt c1 y hm, fun hy a ha => ?_, fun hy => ?_⟩
      · subst hy
        simp only at ev
        refine ⟨c1, fs, rfl, hm, ?_⟩
        cases hq2 : exB P (some (i, c1, fs)) su (e1.set i none) s1 with
        | none => rw [hq2] at ev; cases ev
        | some o2 =>
          rw [hq2] at ev
          refine ⟨bb, s1, r, e1.set i none, o2, R, E.suite xg i a xd, hq2, ?_⟩
          have eC : C = ⟨C.w, C.ad, C.tb, none⟩ := by
            obtain ⟨ad, x0⟩ := C
            cases xg
            rfl
          cases o2 with
          | nx e2 s2 =>
            cases ev
            intro r2 H2 σ2 fx2 R2 E2
            refine post r2 H2 _ fx2 R2 ?_
            rw [eC]
            exact EnvR.unsuite E2 i
          | rt d s2 =>
            cases ev
            exact fun r2 H2 v2 fx2 => post r2 H2 v2 fx2
          | ex c2 fs2 e2 s2 => cases ev
      · subst hy
        exact hw D bb c1 fs e1 s1 o r H dd σ ev post R E xd
theorem cls_bare {x : Str} {su : List CS} {hs : List CH} {hds : List ExceptHandler} {b₀ : Stmt} {ss : List Stmt} {np hp : Pos} (G : Gs T P C false cur W k X) (hg : Gl X x) (hx : x ∈ T.xs)
    (hsu : ∀ (a : Addr) (oe : Obj) (pn : List (Addr × Obj)), Gs T P C true none W0 k (X.suite a ((a, oe) :: pn)) → PSs (X.suite a ((a, oe) :: pn)) (b₀ :: ss) (tBk X.K C P none W0 su))
    (more : ClsOk T P C W X hs hds) : ClsOk T P C W X (.mk x none su :: hs) (.ExceptHandler (some (.Name x np)) none (b₀ :: ss) hp :: hds) := by
  obtain ⟨v, ⟨hdb, hv⟩, hmt⟩ := G.mt x hx
  obtain ⟨l, hl, hw⟩ := more
  refine ⟨(v, none, fun a cls d D σ H => tBk X.K C P none W0 su D σ H) :: l, .bare ⟨hg, hdb, hv⟩ (fun a oe cls d pn hz hf => hsu a oe pn G.bare) hl, fun D bb c1 fs e1 s1 o r H dd σ ev post R E xd => ?_⟩
  simp only [exH] at ev
  cases hm : P.mt c1 x with
  | none => rw [hm] at ev; cases ev
  | some y =>
    rw [hm] at ev
    refine ⟨y, hmt c1 y hm, fun hy a ha => ?_, fun hy => ?_⟩
    · subst hy
      simp only at ev
      cases hq2 : exB P none su e1 s1 with
      | none => rw [hq2] at ev; cases ev
      | some o2 =>
        rw [hq2] at ev
        refine ⟨bb, s1, r, e1, o2, R, E, hq2, ?_⟩
        cases o2 with
        | nx e2 s2 =>
          cases ev
          exact fun r2 H2 σ2 fx2 R2 E2 => post r2 H2 _ fx2 R2 E2
        | rt d s2 =>
          cases ev
          exact fun r2 H2 v2 fx2 => post r2 H2 v2 fx2
        | ex c2 fs2 e2 s2 => cases ev
    · subst hy
      exact hw D bb c1 fs e1 s1 o r H dd σ ev post R E xd
theorem s_try {body : List CS} {hs : List CH} {st : List Stmt} {h₀ : ExceptHandler} {hds : List ExceptHandler} (G : Gs T P C false cur W k X)
    (hb : ∀ (W' : WX) (pn : List (Addr × Obj)) (xe : Value → Shared → Prop), Gs T P C false cur W' k (X.tr pn xe) → PSs (X.tr pn xe) st (tBk X.K C P cur W' body)) (hc : ClsOk T P C W X hs (h₀ :: hds)) :
    PS X (.Try st (h₀ :: hds) [] [] pos) (tSt X.K C P cur W (.try_ body hs)) := by
  obtain ⟨l, hl, hw⟩ := hc
  refine PS.imp (ps_tryC (tb := fun W' => tBk X.K C P cur W' body) G.stk G.frm G.gd.nd G.gd.tk (fun W' pn xe tk hp => hb W' pn xe (G.tr tk hp)) hl) fun D σ H ⟨bb, s, rr, en, u, R, E, ev, post⟩ => ?_
  simp only [exS] at ev
  cases hq : exB P cur body en s with
  | none => rw [hq] at ev; cases ev
  | some o1 =>
    rw [hq] at ev
    refine ⟨bb, s, rr, en, o1, R, E, hq, ?_⟩
    cases o1 with
    | nx e1 s1 =>
      cases ev
      exact post
    | rt d s1 =>
      cases ev
      exact post
    | ex c1 fs e1 s1 =>
      intro r' H' dd σ' fx R1 E1 xd
      exact hw D bb c1 fs e1 s1 u r' H' dd σ' ev (post.mono fx) R1 E1 xd
end
def swNames (sc : Scope) (ts : List Expr) : List Str := ts.filterMap fun
  | .Name id pos => if sc.names.lookup id == some .local && pos.line == (ts.head?.map (·.pos.line)).getD 0 then some id else none
  | _ => none
def swN (sc : Scope) (ts vs : List Expr) : Option (Option (List Str)) :=
  if !(ts.length == 2 || ts.length == 3) || vs.length != ts.length then some none
  else if vs.any (fun | .Starred .. => true | _ => false) then some none
  else if (swNames sc ts).length != ts.length || (swNames sc ts).eraseDups.length != (swNames sc ts).length then some none
  else if vs.all (foldedForSure 8) then some none
  else if vs.all (constantsAlone 8) then none
  else some (some (swNames sc ts))
theorem sw_ok {env : PySem.Env} {ts vs : List Expr} {r : Option (List Str)} {kt k2 : Nat} {pt pt2 : Pos} (hk : env.scope.kind = .function) (h : swN env.scope ts vs = some r) : swappedStores [.Tuple ts kt pt] (.Tuple vs k2 pt2) env = pure r := by
  have hb : env.blockKind = .function := by unfold Env.blockKind; rw [hk]; rfl
  unfold swN at h
  unfold swappedStores
  simp only [hb]
  by_cases h1 : (!(ts.length == 2 || ts.length == 3) || vs.length != ts.length) = true
  · rw [if_pos h1] at h
    cases h
    simp only [h1, Bool.true_or, if_true]
  · rw [if_neg h1] at h
    have h1' : (!(ts.length == 2 || ts.length == 3) || vs.length != ts.length || (PySem.ScopeKind.function != .function)) = false := by
      rw [Bool.eq_false_iff.mpr h1]
      rfl
    rw [if_neg (by rw [h1']; exact Bool.false_ne_true)]
    by_cases h2 : (vs.any (fun | .Starred .. => true | _ => false)) = true
    · rw [if_pos h2] at h
      cases h
      exact if_pos h2
    · rw [if_neg h2] at h
      refine (if_neg h2).trans ?_
      by_cases h3 : ((swNames env.scope ts).length != ts.length || (swNames env.scope ts).eraseDups.length != (swNames env.scope ts).length) = true
      · rw [if_pos h3] at h
        cases h
        exact if_pos h3
      · rw [if_neg h3] at h
        refine (if_neg h3).trans ?_
        by_cases h4 : vs.all (foldedForSure 8) = true
        · rw [if_pos h4] at h
          cases h
          rw [if_pos h4]
        · rw [if_neg h4] at h
          rw [if_neg h4]
          by_cases h5 : vs.all (constantsAlone 8) = true
          · rw [if_pos h5] at h
            cases h
          · rw [if_neg h5] at h
            cases h
            rw [if_neg h5]
            rfl
def isLc : Expr → Bool
  | .ListComp _ _ _ _ => true
  | .SetComp _ _ _ _ => true
  | .DictComp _ _ _ _ _ => true
  | _ => false
def lcSw (sc : Scope) (x : Str) (px : Pos) : Expr → Bool
  | .ListComp _ _ s p => decide (sc.names.lookup x = some .local) && px.line == p.line && !(s.names.any fun (n, k) => n == x && (k == .local || k == .cell))
  | _ => false
def isTuple : Expr → Bool
  | .Tuple _ _ _ => true
  | _ => false
def augB : B2 → Bool
  | .add => true
  | .sub => true
  | .mul => true
  | _ => false
def chkSet (hot : Bool) (sc : Scope) (e : Expr) : Expr → Bool
  | .Name x px => !isLc e || (!hot && lcSw sc x px e)
  | _ => !hot && !isLc e && !isTuple e
def chkPar (N : List Str) (sc : Scope) (is : List Nat) (ts vs : List Expr) : Bool := match swN sc ts vs with
  | some none => chkTg.go true N sc is ts && decide (is.length ≤ 1000)
  | some (some _) => (match is, ts with
    | [i, j], [.Name x _, .Name y _] => decide (i ≠ j) && decide (N[i]? = some x) && decide (N[j]? = some y) && decide (sc.names.lookup x = some .local) && decide (sc.names.lookup y = some .local) && decide (swNames sc ts = [x, y])
    | _, _ => false)
  | none => false
mutual
def chkS (T : Tb) (hot : Bool) (N : List Str) (sc : Scope) : CS → Stmt → Bool
  | .exp a, st => (match st with
    | .Expr e _ => chkE T hot N sc a e && !isLc e
    | _ => false)
  | .ret a, st => (match st with
    | .Return (some e) _ => chkE T hot N sc a e
    | _ => false)
  | .set t a, st => (match st with
    | .Assign [tg] e _ => chkE T hot N sc a e && chkTg true N sc t tg && chkSet hot sc e tg
    | _ => false)
  | .par is es, st => (match st with
    | .Assign [.Tuple ts _ _] (.Tuple vs _ _) _ => !hot && chkL T hot N sc es vs && chkPar N sc is ts vs
    | _ => false)
  | .aug i o a, st => (match st with
    | .AugAssign (.Name x _) op e _ => augB o && decide (op = o.op) && decide (N[i]? = some x) && locB true sc x && chkE T hot N sc a e
    | _ => false)
  | .sub o i a, st => (match st with
    | .Assign [.Subscript eo ei _] e _ => notSl ei && chkE T hot N sc a e && chkE T hot N sc o eo && chkE T hot N sc i ei
    | _ => false)
  | .wall, st => true
  | .fset o f a, st => (match st with
    | .Assign [.Attribute eo g _] e _ => decide (g = f) && chkE T hot N sc a e && chkE T hot N sc o eo
    | _ => false)
  | .ite c a b, st => (match st with
    | .If e s1 s2 _ => chkE T hot N sc c e && chkBk T hot N sc a s1 && chkBk T hot N sc b s2
    | _ => false)
  | .for_ t k src body, st => (match st with
    | .For tg it sts [] _ => !hot && chkI T hot N sc k src tg it && chkTg true N sc t tg && chkBk T hot N sc body sts
    | _ => false)
  | .while_ c body, st => (match st with
    | .While e sts [] _ => !hot && chkE T hot N sc c e && chkBk T hot N sc body sts
    | _ => false)
  | .raise c es, st => (match st with
    | .Raise (some (.Call (.Name x _) args [] _)) none _ => !hot && decide (T.cn c = some x) && glB sc x && !args.isEmpty && chkL T hot N sc es args
    | _ => false)
  | .try_ body hs, st => (match st with
    | .Try sts hds [] [] _ => !hot && !hds.isEmpty && chkBk T hot N sc body sts && chkHd T N sc hs hds
    | _ => false)
  | .pass, st => (match st with
    | .Pass _ => true
    | _ => false)
def chkBk (T : Tb) (hot : Bool) (N : List Str) (sc : Scope) : List CS → List Stmt → Bool
  | [], sts => sts.isEmpty
  | c :: cs, sts => (match sts with
    | st :: r => chkS T hot N sc c st && chkBk T hot N sc cs r
    | [] => false)
def chkHd (T : Tb) (N : List Str) (sc : Scope) : List CH → List ExceptHandler → Bool
  | [], hds => hds.isEmpty
  | .mk x i su :: hs, hds => (match hds with
    | .ExceptHandler (some (.Name y _)) nm (b₀ :: ss) _ :: r => decide (y = x) && glB sc y && T.xs.contains y && (match i, nm with
      | some j, some n => decide (N[j]? = some n) && decide (sc.names.lookup n = some .local)
      | none, none => true
      | _, _ => false) && chkBk T true N sc su (b₀ :: ss) && chkHd T N sc hs r
    | _ => false)
end
theorem not_lc {e : Expr} (h : isLc e = false) (t : Option Expr) (l : Nat) (env : PySem.Env) : swapsWith e t l env = pure false := by
  cases e <;> first | rfl | cases h
theorem sw_att {e o : Expr} {f : Str} {p : Pos} (l : Nat) (env : PySem.Env) : swapsWith e (some (.Attribute o f p)) l env = pure false := by
  cases e <;> rfl
theorem sw_sub {e o i : Expr} {p : Pos} (l : Nat) (env : PySem.Env) : swapsWith e (some (.Subscript o i p)) l env = pure false := by
  cases e <;> rfl
theorem ip_of {o : B2} {X : Cx} (h : augB o = true) : ipB o X := by
  cases o <;> first | exact ip_add' | exact ip_sub' | exact ip_mul' | cases h
theorem sw_none {tg e : Expr} {env : PySem.Env} (h : isTuple e = false) : swappedStores [tg] e env = pure none := by
  cases tg <;> cases e <;> first | rfl | cases h
theorem sndLc {T : Tb} {P : Ev} {C : Cn} {cur : Cur} {W : WX} {k : Nat} {X : Cx} (a : CE) (G : Gs T P C false cur W k X) (i : Nat) (y : Str) (py : Pos) (e : Expr) (spos : Pos) (hy : X.N[i]? = some y) (h : chkE T false X.N X.env.scope a e = true) (hsw : lcSw X.env.scope y py e = true) :
    PS X (.Assign [.Name y py] e spos) (tSt X.K C P cur W (.set (.nm i) a)) := by
  cases e <;> try (cases hsw; done)
  rename_i el gens scope p
  simp only [lcSw, Bool.and_eq_true, decide_eq_true_eq, Bool.not_eq_true'] at hsw
  obtain ⟨⟨s1, s2⟩, s3⟩ := hsw
  cases a <;> try (cases h; done)
  case bad => exact ⟨fun pins s0 σ H D I ⟨bb, s, rr, en, u, R, E, ev, post⟩ => by cases ev⟩
  case lc2 tg kk src ifs tg2 kk2 src2 ifs2 elt own own2 =>
    match gens, h with
    | [⟨t, it, fs, 0⟩, ⟨t2, it2, fs2, 0⟩], h =>
      have h' := chk_lc2.symm.trans h
      simp only [Bool.and_eq_true, decide_eq_true_eq, Bool.not_eq_true'] at h'
      obtain ⟨⟨⟨⟨⟨⟨⟨⟨⟨⟨⟨⟨⟨⟨_, h1⟩, h2⟩, h3⟩, h4⟩, h5⟩, h6⟩, h7⟩, g1⟩, g2⟩, g3⟩, g4⟩, g5⟩, h8⟩, g8⟩ := h'
      obtain ⟨hi, hs⟩ := sndI G.gd h8 (fun es hes => sndL src G.gd es hes) (fun c e hc he => snd1 src G.gd c e hc he)
      have GB := fun s H c cl fp => G.gd.blk s H scope (compEnvC scope cl c X.env) fp
      have hi2 := fun s H c cl fp => sndI (GB s H c cl fp) g8 (fun es hes => sndL src2 (GB s H c cl fp) es hes) (fun c' e hc he => snd1 src2 (GB s H c cl fp) c' e hc he)
      refine s_setLc2 (G.gd.xg0 rfl) (G.gd.calm rfl) G.gd.nd G.gd.fu hy s1 (sw_true G.kind s1 s2 s3) hi (blkOk_by h1) h2 (fun i hi => ?_) (fun i hi => ?_) (fun i hi => ?_) (fun s H c cl fp => ?_) (fun s H c cl fp => ?_) (fun s H c cl fp => (hi2 s H c cl fp).1) (fun s H c cl fp => ?_) (fun s H c cl fp => ?_) (fun s H c cl fp => ?_) (hs X.env) (chkI_fold g8)
      · have q := List.all_eq_true.mp h3 i hi
        simpa using q
      · have q := List.all_eq_true.mp g1 i hi
        simpa using q
      · have q := List.all_eq_true.mp g2 i hi
        simpa using q
      · exact pg_tg (cel := false) (X := X.blk s H scope (compEnvC scope cl c X.env) fp) (fun z => by cases z) (G.gd.calm rfl) G.gd.nd h4
      · match fs, h5, h6 with
        | [], _, h6 => exact sndIf0 ifs h6
        | [f], _, h6 => exact sndIf1 ifs (GB s H c cl fp) f h6
        | _ :: _ :: _, h5, _ => simp at h5
      · exact pg_tg (cel := false) (X := X.blk s H scope (compEnvC scope cl c X.env) fp) (fun z => by cases z) (G.gd.calm rfl) G.gd.nd g3
      · match fs2, g4, g5 with
        | [], _, h6 => exact sndIf0 ifs2 h6
        | [f], _, h6 => exact sndIf1 ifs2 (GB s H c cl fp) f h6
        | _ :: _ :: _, h5, _ => simp at h5
      · exact (snd elt (GB s H c cl fp) el h7).1
  rename_i tg kk src ifs elt own
  match gens, h with
  | [⟨t, it, fs, 0⟩], h =>
    have h' := chk_lc.symm.trans h
    simp only [Bool.and_eq_true, decide_eq_true_eq, Bool.not_eq_true'] at h'
    obtain ⟨⟨⟨⟨⟨⟨⟨⟨_, h1⟩, h2⟩, h3⟩, h4⟩, h5⟩, h6⟩, h7⟩, h8⟩ := h'
    obtain ⟨hi, hs⟩ := sndI G.gd h8 (fun es hes => sndL src G.gd es hes) (fun c e hc he => snd1 src G.gd c e hc he)
    refine s_setLc (G.gd.xg0 rfl) (G.gd.calm rfl) G.gd.nd G.gd.fu hy s1 (sw_true G.kind s1 s2 s3) hi (blkOk_by h1) h2 (fun i hi => ?_) (fun s H c cl fp => ?_) (fun s H c cl fp => ?_) (fun s H c cl fp => ?_) (hs X.env)
    · have q := List.all_eq_true.mp h3 i hi
      simpa using q
    · exact pg_tg (cel := false) (X := X.blk s H scope (compEnvC scope cl c X.env) fp) (fun z => by cases z) (G.gd.calm rfl) G.gd.nd h4
    · match fs, h5, h6 with
      | [], _, h6 => exact sndIf0 ifs h6
      | [f], _, h6 => exact sndIf1 ifs (G.gd.blk s H scope (compEnvC scope cl c X.env) fp) f h6
      | _ :: _ :: _, h5, _ => simp at h5
    · exact (snd elt (G.gd.blk s H scope (compEnvC scope cl c X.env) fp) el h7).1
mutual
theorem sndS {T : Tb} {P : Ev} : ∀ (c : CS) {C : Cn} {hot : Bool} {cur : Cur} {W : WX} {k : Nat} {X : Cx}, Gs T P C hot cur W k X → ∀ st, chkS T hot X.N X.env.scope c st = true → PS X st (tSt X.K C P cur W c)
  | .exp a, C, hot, cur, W, k, X, G, st, h => by
    cases st <;> try (cases h; done)
    rename_i e pos
    have h' : (chkE T hot X.N X.env.scope a e && !isLc e) = true := h
    simp only [Bool.and_eq_true, Bool.not_eq_true'] at h'
    exact s_exp (snd a G.gd e h'.1).1 (not_lc h'.2 _ _ _)
  | .ret a, C, hot, cur, W, k, X, G, st, h => by
    cases st <;> try (cases h; done)
    rename_i e pos
    cases e <;> try (cases h; done)
    exact s_ret (snd a G.gd _ h).1
  | .set t a, C, hot, cur, W, k, X, G, st, h => by
    cases st <;> try (cases h; done)
    rename_i tgs e pos
    match tgs, h with
    | [tg], h =>
      have h' : (chkE T hot X.N X.env.scope a e && chkTg true X.N X.env.scope t tg && chkSet hot X.env.scope e tg) = true := h
      simp only [Bool.and_eq_true] at h'
      obtain ⟨⟨h1, h2⟩, h3⟩ := h'
      by_cases hn : ∃ x px, tg = .Name x px
      · obtain ⟨x, px, rfl⟩ := hn
        cases t with
        | tp is => cases h2
        | nm i =>
          simp only [chkTg, Bool.and_eq_true, decide_eq_true_eq] at h2
          obtain ⟨l1, l2⟩ := loc_of (cel := true) (fun _ => G.fnx) h2.2
          by_cases hl : isLc e = false
          · exact s_set G.gd.nd h2.1 l1 (snd a G.gd e h1).1 (not_lc hl _ _ _) l2
          · have hl' : isLc e = true := by simpa using hl
            have h4 : (!isLc e || (!hot && lcSw X.env.scope x px e)) = true := h3
            rw [hl'] at h4
            simp only [Bool.not_true, Bool.false_or, Bool.and_eq_true, Bool.not_eq_true'] at h4
            obtain ⟨rfl, h5⟩ := h4
            exact sndLc a G i x px e pos h2.1 h1 h5
      · have h4 : (!hot && !isLc e && !isTuple e) = true := by
          cases tg <;> first | exact absurd ⟨_, _, rfl⟩ hn | exact h3
        simp only [Bool.and_eq_true, Bool.not_eq_true'] at h4
        obtain ⟨⟨rfl, h5⟩, h6⟩ := h4
        refine s_tup (snd a G.gd e h1).1 (pg_tgM (cel := true) (fun _ => G.fnx) (G.gd.calm rfl) G.gd.nd h2) (not_lc h5 _ _ _) (sw_none h6) ?_
        cases tg <;> first | rfl | (cases t <;> cases h2)
  | .par is es, C, hot, cur, W, k, X, G, st, h => by
    cases st <;> try (cases h; done)
    rename_i tgs e pos
    match tgs, e, h with
    | [.Tuple ts kt pt], .Tuple vs k2 pt2, h =>
      have h' : (!hot && chkL T hot X.N X.env.scope es vs && chkPar X.N X.env.scope is ts vs) = true := h
      simp only [Bool.and_eq_true, Bool.not_eq_true'] at h'
      obtain ⟨⟨rfl, h1⟩, h2⟩ := h'
      have ha := sndL es G.gd vs h1
      unfold chkPar at h2
      split at h2
      · rename_i hsw
        simp only [Bool.and_eq_true, decide_eq_true_eq] at h2
        have hg : PG X (.Tuple ts kt pt) (gTg X.K (.tp is)) := pg_tg (cel := true) (fun _ => G.fnx) (G.gd.calm rfl) G.gd.nd (show chkTg true X.N X.env.scope (.tp is) (.Tuple ts kt pt) = true from h2.1)
        exact s_parT ha hg (sw_ok G.kind hsw) (by have := h2.2; rw [sizeLine_eq]; omega)
      · rename_i ns hsw
        split at h2
        · rename_i i j x px y py _
          simp only [Bool.and_eq_true, decide_eq_true_eq] at h2
          obtain ⟨⟨⟨⟨⟨k1, k2'⟩, k3⟩, k4⟩, k5⟩, k6⟩ := h2
          have hns : ns = [x, y] := by
            rw [← k6]
            unfold swN at hsw
            split at hsw
            · cases hsw
            · split at hsw
              · cases hsw
              · split at hsw
                · cases hsw
                · split at hsw
                  · cases hsw
                  · split at hsw
                    · cases hsw
                    · cases hsw
                      rfl
          subst hns
          have hlen : ∃ v1 v2, vs = [v1, v2] := by
            unfold swN at hsw
            split at hsw
            · cases hsw
            · rename_i hh
              have hl : vs.length = 2 := by simpa using hh
              match vs, hl with
              | [v1, v2], _ => exact ⟨v1, v2, rfl⟩
          obtain ⟨v1, v2, rfl⟩ := hlen
          exact s_par2 (G.gd.calm rfl) G.gd.nd k2' k3 k1 k4 k5 ha (sw_ok G.kind hsw) rfl
        · cases h2
      · cases h2
  | .aug i o a, C, hot, cur, W, k, X, G, st, h => by
    cases st <;> try (cases h; done)
    rename_i tg op e pos
    cases tg <;> try (cases h; done)
    rename_i x px
    have h' : (augB o && decide (op = o.op) && decide (X.N[i]? = some x) && locB true X.env.scope x && chkE T hot X.N X.env.scope a e) = true := h
    simp only [Bool.and_eq_true, decide_eq_true_eq] at h'
    obtain ⟨⟨⟨⟨h1, rfl⟩, h2⟩, h3⟩, h4⟩ := h'
    obtain ⟨l1, l2⟩ := loc_of (cel := true) (fun _ => G.fnx) h3
    exact s_aug G.gd.nd h2 l1 (snd a G.gd e h4).1 (ip_of h1) l2
  | .sub o i a, C, hot, cur, W, k, X, G, st, h => by
    cases st <;> try (cases h; done)
    rename_i tgs e pos
    match tgs, h with
    | [.Subscript eo ei tp], h =>
      have h' : (notSl ei && chkE T hot X.N X.env.scope a e && chkE T hot X.N X.env.scope o eo && chkE T hot X.N X.env.scope i ei) = true := h
      simp only [Bool.and_eq_true, Bool.not_eq_true'] at h'
      obtain ⟨⟨⟨h1, h3⟩, h4⟩, h5⟩ := h'
      exact s_sub G.gd.cw (by have := G.gd.un; omega) (snd o G.gd eo h4).1 (snd i G.gd ei h5).1 (snd a G.gd e h3).1 (show swapsWith e (some (.Subscript eo ei tp)) pos.line X.env = pure false from sw_sub _ _) h1
  | .wall, C, hot, cur, W, k, X, G, st, h => s_wall
  | .fset o f a, C, hot, cur, W, k, X, G, st, h => by
    cases st <;> try (cases h; done)
    rename_i tgs e pos
    match tgs, h with
    | [.Attribute eo g tp], h =>
      have h' : (decide (g = f) && chkE T hot X.N X.env.scope a e && chkE T hot X.N X.env.scope o eo) = true := h
      simp only [Bool.and_eq_true, decide_eq_true_eq] at h'
      obtain ⟨⟨rfl, h3⟩, h4⟩ := h'
      exact s_fset G.gd.fn.cl (snd o G.gd eo h4).1 (snd a G.gd e h3).1 (sw_att _ _)
  | .ite c a b, C, hot, cur, W, k, X, G, st, h => by
    cases st <;> try (cases h; done)
    rename_i e s1 s2 pos
    have h' : (chkE T hot X.N X.env.scope c e && chkBk T hot X.N X.env.scope a s1 && chkBk T hot X.N X.env.scope b s2) = true := h
    simp only [Bool.and_eq_true] at h'
    exact s_ite (snd c G.gd e h'.1.1).2 (sndBk a G s1 h'.1.2) (sndBk b G s2 h'.2)
  | .for_ t kk src body, C, hot, cur, W, k, X, G, st, h => by
    cases st <;> try (cases h; done)
    rename_i tg it sts el pos
    cases el with
    | cons _ _ => cases h
    | nil =>
      have h' : (!hot && chkI T hot X.N X.env.scope kk src tg it && chkTg true X.N X.env.scope t tg && chkBk T hot X.N X.env.scope body sts) = true := h
      simp only [Bool.and_eq_true, Bool.not_eq_true'] at h'
      obtain ⟨⟨⟨rfl, h1⟩, h2⟩, h3⟩ := h'
      obtain ⟨hi, hs⟩ := sndI G.gd h1 (fun es hes => sndL src G.gd es hes) (fun c e hc he => snd1 src G.gd c e hc he)
      exact s_for (G.own rfl) (G.gd.calm rfl) hi (pg_tg (cel := true) (fun _ => G.fnx) (G.gd.calm rfl) G.gd.nd h2) (sndBk body G sts h3) (hs X.env)
  | .while_ c body, C, hot, cur, W, k, X, G, st, h => by
    cases st <;> try (cases h; done)
    rename_i e sts el pos
    cases el with
    | cons _ _ => cases h
    | nil =>
      have h' : (!hot && chkE T hot X.N X.env.scope c e && chkBk T hot X.N X.env.scope body sts) = true := h
      simp only [Bool.and_eq_true, Bool.not_eq_true'] at h'
      obtain ⟨⟨rfl, h1⟩, h3⟩ := h'
      exact s_while (G.own rfl) (snd c G.gd e h1).2 (sndBk body G sts h3)
  | .raise c es, C, hot, cur, W, k, X, G, st, h => by
    cases st <;> try (cases h; done)
    rename_i e fr pos
    match e, fr, h with
    | some (.Call (.Name x p) args [] p2), none, h =>
      have h' : (!hot && decide (T.cn c = some x) && glB X.env.scope x && !args.isEmpty && chkL T hot X.N X.env.scope es args) = true := h
      simp only [Bool.and_eq_true, Bool.not_eq_true', decide_eq_true_eq] at h'
      obtain ⟨⟨⟨⟨rfl, h1⟩, h2⟩, h3⟩, h4⟩ := h'
      match args, h3, h4 with
      | e0 :: er, _, h4 =>
        obtain ⟨c0, cr, rfl, hc0, hcr⟩ := chkL_to h4
        exact s_raise (G.gd.calm rfl) G.gd.tk (G.mkx rfl c x h1 (gl_of h2) X.pn X.xe e0 er _ p p2 (sndL (c0 :: cr) G.gd (e0 :: er) h4) (star_of (chk_ns hc0) er X.env) (any_ns hcr))
  | .try_ body hs, C, hot, cur, W, k, X, G, st, h => by
    cases st <;> try (cases h; done)
    rename_i sts hds el fi pos
    match hds, el, fi, h with
    | [], [], [], h =>
      have h' : (!hot && !(([] : List ExceptHandler).isEmpty) && chkBk T hot X.N X.env.scope body sts && chkHd T X.N X.env.scope hs []) = true := h
      simp at h'
    | h₀ :: hds, [], [], h =>
      have h' : (!hot && !(h₀ :: hds).isEmpty && chkBk T hot X.N X.env.scope body sts && chkHd T X.N X.env.scope hs (h₀ :: hds)) = true := h
      simp only [Bool.and_eq_true, Bool.not_eq_true'] at h'
      obtain ⟨⟨⟨rfl, _⟩, h5⟩, h6⟩ := h'
      exact s_try G (fun W' pn xe G' => sndBk body G' sts h5) (sndH hs G (h₀ :: hds) h6)
  | .pass, C, hot, cur, W, k, X, G, st, h => by
    cases st <;> try (cases h; done)
    exact s_pass
theorem sndBk {T : Tb} {P : Ev} : ∀ (cs : List CS) {C : Cn} {hot : Bool} {cur : Cur} {W : WX} {k : Nat} {X : Cx}, Gs T P C hot cur W k X → ∀ sts, chkBk T hot X.N X.env.scope cs sts = true → PSs X sts (tBk X.K C P cur W cs)
  | [], C, hot, cur, W, k, X, G, sts, h => by
    have e : sts = [] := by simpa [chkBk] using h
    subst e
    exact b_nil
  | c :: cs, C, hot, cur, W, k, X, G, sts, h => by
    cases sts with
    | nil => cases h
    | cons st r =>
      simp only [chkBk, Bool.and_eq_true] at h
      exact b_cons (sndS c G st h.1) (sndBk cs G r h.2)
theorem sndH {T : Tb} {P : Ev} : ∀ (hs : List CH) {C : Cn} {cur : Cur} {W : WX} {k : Nat} {X : Cx}, Gs T P C false cur W k X → ∀ hds, chkHd T X.N X.env.scope hs hds = true → ClsOk T P C W X hs hds
  | [], C, cur, W, k, X, G, hds, h => by
    have e : hds = [] := by simpa [chkHd] using h
    subst e
    exact cls_nil
  | .mk x i su :: hs, C, cur, W, k, X, G, hds, h => by
    match hds, h with
    | .ExceptHandler (some (.Name y py)) nm (b₀ :: ss) hp :: r, h =>
      simp only [chkHd, Bool.and_eq_true, decide_eq_true_eq] at h
      obtain ⟨⟨⟨⟨⟨rfl, h1⟩, h2⟩, h3⟩, h4⟩, h5⟩ := h
      match i, nm, h3 with
      | some j, some n, h3 =>
        simp only [Bool.and_eq_true, decide_eq_true_eq] at h3
        exact cls_as G h3.1 h3.2 (gl_of h1) (by simpa using h2) (fun a oe pn c dd fs G' => sndBk su G' (b₀ :: ss) h4) (sndH hs G r h5)
      | none, none, _ => exact cls_bare G (gl_of h1) (by simpa using h2) (fun a oe pn G' => sndBk su G' (b₀ :: ss) h4) (sndH hs G r h5)
end
end PV
set_option Elab.async false
set_option linter.all false
set_option autoImplicit false
set_option maxRecDepth 100000
set_option maxHeartbeats 4000000
namespace PV
open PySem PySem.Spec PyProof.Rows L2
theorem PA.clo {X : Cx} {es : List Expr} {t : TA} (h : PA X es t) : PA X es (fun σ H Q => ∃ Q0 : List V → Hp → Prop, t σ H Q0 ∧ ∀ vs H1, Q0 vs H1 → Q vs H1) :=
  ⟨fun pos pins s σ H Q I ⟨Q0, q, k⟩ => thn (h.run pos pins s σ H Q0 I q) fun us s1 ⟨vs, H1, I1, r, z⟩ => ⟨vs, H1, I1, r, k _ _ z⟩⟩
def putF (σ : Sl) : List (Str × Nat) → List (Str × V) → List (Str × V)
  | [], fv => fv
  | (f, j) :: l, fv => putF σ l (match σ[j]? with
    | some (some v) => (f, v) :: fv
    | _ => fv)
def chkIni (N : List Str) (sc : Scope) : List (Str × Nat) → List Stmt → Bool
  | [], sts => sts.isEmpty
  | (f, j) :: l, sts => (match sts with
    | .Assign [.Attribute (.Name x _) g _] (.Name y _) _ :: r => decide (N[0]? = some x) && decide (N[j]? = some y) && visB sc x && visB sc y && okN x && okN y && decide (g = f) && chkIni N sc l r
    | _ => false)
def iniSp (A : Addr) (fl : List Str) : Sp := fun vs H Q _ => ∃ a ws, vs = .ref a :: ws ∧ ws.length = fl.length ∧ H a = some (exo a A none) ∧
  ∀ d fv H2, H d = none → d ≠ a → H2 a = some (exo a A (some d)) → H2 d = some (exd d fv) → (∀ b, b ≠ a → b ≠ d → H2 b = H b) → (∀ f, fv.lookup f = (fl.zip ws).lookup f) → Q .non H2
section
variable {X : Cx} {A : Addr}
theorem ini_tail (T : OexC X.K A) : ∀ (l : List (Str × Nat)) (sts : List Stmt), chkIni X.N X.env.scope l sts = true → (∀ p ∈ l, PySem.W.findIn X.K (.ref A) p.1 = some none) →
    PSs X sts (fun D σ H => ∃ a d fv, a ≠ d ∧ σ[0]? = some (some (.ref a)) ∧ H a = some (exo a A (some d)) ∧ H d = some (exd d fv) ∧ fv.length + l.length ≤ 900 ∧ (∀ p ∈ l, ∃ v, σ[p.2]? = some (some v)) ∧
      ∀ H2, H2 d = some (exd d (putF σ l fv)) → (∀ b, b ≠ d → H2 b = H b) → D.nx σ H2)
  | [], sts, h, _ => by
    have e : sts = [] := by simpa [chkIni] using h
    subst e
    exact PSs.imp pss_nil fun D σ H ⟨a, d, fv, _, h1, h2, h3, h4, h5, k⟩ => k H h3 fun _ _ => rfl
  | (f, j) :: l, sts, h, hn => by
    simp only [chkIni] at h
    split at h
    · rename_i x p1 g p2 y p3 pos r
      simp only [Bool.and_eq_true, decide_eq_true_eq] at h
      obtain ⟨⟨⟨⟨⟨⟨⟨h1, h2⟩, h3⟩, h4⟩, h5⟩, h6⟩, rfl⟩, h8⟩ := h
      obtain ⟨o1, o2, _⟩ := okN_of h5
      obtain ⟨o3, o4, _⟩ := okN_of h6
      refine PSs.imp (pss_cons (ps_ost (X := X) (f := g) (p' := p2) (pos := pos) (pe_var (pos := p1) h1 (vis_of h3) o1 o2) (pe_var (pos := p3) h2 (vis_of h4) o3 o4) rfl) (ini_tail T l r h8 fun p hp => hn p (List.mem_cons_of_mem _ hp))) fun D σ H ⟨a, d, fv, da, k1, k2, k3, k4, k5, k⟩ => ?_
      obtain ⟨v, hv⟩ := k5 _ (List.mem_cons_self)
      refine ⟨v, hv, .ref a, k1, a, A, rfl, T, hn _ (List.mem_cons_self), .inr ⟨d, fv, k2, k3, by simp at k4; omega, ?_⟩⟩
      refine ⟨a, d, (g, v) :: fv, da, k1, by rw [upd_ne da]; exact k2, upd_same, by simp at k4 ⊢; omega, fun p hp => k5 p (List.mem_cons_of_mem _ hp), fun H2 e1 e2 => k H2 ?_ fun b hb => by rw [e2 b hb, upd_ne hb]⟩
      simp only [putF, hv]
      exact e1
    · cases h
theorem ini_body (T : OexC X.K A) (f : Str) (j : Nat) (l : List (Str × Nat)) (sts : List Stmt) (h : chkIni X.N X.env.scope ((f, j) :: l) sts = true) (hn : ∀ p ∈ (f, j) :: l, PySem.W.findIn X.K (.ref A) p.1 = some none) :
    PSs X sts (fun D σ H => ∃ a, σ[0]? = some (some (.ref a)) ∧ H a = some (exo a A none) ∧ l.length ≤ 800 ∧ (∀ p ∈ (f, j) :: l, ∃ v, σ[p.2]? = some (some v)) ∧
      ∀ d H2, H d = none → d ≠ a → H2 a = some (exo a A (some d)) → H2 d = some (exd d (putF σ ((f, j) :: l) [])) → (∀ b, b ≠ a → b ≠ d → H2 b = H b) → D.nx σ H2) := by
  simp only [chkIni] at h
  split at h
  · rename_i x p1 g p2 y p3 pos r
    simp only [Bool.and_eq_true, decide_eq_true_eq] at h
    obtain ⟨⟨⟨⟨⟨⟨⟨h1, h2⟩, h3⟩, h4⟩, h5⟩, h6⟩, rfl⟩, h8⟩ := h
    obtain ⟨o1, o2, _⟩ := okN_of h5
    obtain ⟨o3, o4, _⟩ := okN_of h6
    refine PSs.imp (pss_cons (ps_ost (X := X) (f := g) (p' := p2) (pos := pos) (pe_var (pos := p1) h1 (vis_of h3) o1 o2) (pe_var (pos := p3) h2 (vis_of h4) o3 o4) rfl) (ini_tail T l r h8 fun p hp => hn p (List.mem_cons_of_mem _ hp))) fun D σ H ⟨a, k1, k2, k4, k5, k⟩ => ?_
    obtain ⟨v, hv⟩ := k5 _ (List.mem_cons_self)
    refine ⟨v, hv, .ref a, k1, a, A, rfl, T, hn _ (List.mem_cons_self), .inl ⟨k2, fun d hd da => ?_⟩⟩
    refine ⟨a, d, [(g, v)], Ne.symm da, k1, upd_same, by rw [upd_ne da]; exact upd_same, by simp; omega, fun p hp => k5 p (List.mem_cons_of_mem _ hp), fun H2 e1 e2 => k d H2 hd da ?_ ?_ fun b h1 h2 => ?_⟩
    · rw [e2 a (Ne.symm da)]
      exact upd_same
    · simp only [putF, hv]
      exact e1
    · rw [e2 b h2, upd_ne h1, upd_ne h2]
  · cases h
end
theorem lookup_rev {α : Type} {f : Str} : ∀ {l : List (Str × α)}, (l.map (·.1)).Nodup → l.reverse.lookup f = l.lookup f
  | [], _ => rfl
  | (g, v) :: l, h => by
    rw [List.map_cons, List.nodup_cons] at h
    rw [List.reverse_cons, List.lookup_append, lookup_rev h.2]
    by_cases e : f = g
    · subst e
      have hn : l.lookup f = none := by
        cases q : l.lookup f with
        | none => rfl
        | some u =>
          exact absurd (List.mem_map.mpr ⟨(f, u), PySem.mem_of_lookup q, rfl⟩) h.1
      rw [hn]
      simp [List.lookup]
    · have e' : (f == g) = false := by simpa using e
      simp only [List.lookup, e']
      cases l.lookup f <;> rfl
def flIx (fl : List Str) (k : Nat) : List (Str × Nat) := match fl with
  | [] => []
  | f :: r => (f, k) :: flIx r (k + 1)
theorem putF_rev {σ : Sl} : ∀ {fl : List Str} {ws : List V} {k : Nat} {fv : List (Str × V)}, ws.length = fl.length → (∀ i v, ws[i]? = some v → σ[k + i]? = some (some v)) → putF σ (flIx fl k) fv = (fl.zip ws).reverse ++ fv
  | [], ws, k, fv, hl, h => by cases ws <;> first | rfl | cases hl
  | f :: fl, [], k, fv, hl, h => by cases hl
  | f :: fl, w :: ws, k, fv, hl, h => by
    simp only [flIx, putF]
    have h0 := h 0 w rfl
    rw [show k + 0 = k from rfl] at h0
    rw [h0]
    simp only
    rw [putF_rev (by simpa using hl) fun i v e => by
      have := h (i + 1) v (by simpa using e)
      rw [show k + 1 + i = k + (i + 1) by omega]
      exact this]
    simp
theorem flIx_mem {fl : List Str} {k : Nat} {p : Str × Nat} (h : p ∈ flIx fl k) : p.1 ∈ fl ∧ k ≤ p.2 ∧ p.2 < k + fl.length := by
  induction fl generalizing k with
  | nil => cases h
  | cons f r ih =>
    rcases List.mem_cons.mp h with rfl | h
    · exact ⟨List.mem_cons_self, Nat.le_refl _, by simp⟩
    · obtain ⟨h1, h2, h3⟩ := ih h
      exact ⟨List.mem_cons_of_mem _ h1, by omega, by simp; omega⟩
structure IniC (K : PySem.W.Frag) (A : Addr) (fl : List Str) : Prop where
  T : OexC K A
  nd : fl.Nodup
  le : fl ≠ [] ∧ fl.length ≤ 800
  no : ∀ f ∈ fl, PySem.W.findIn K (.ref A) f = some none
  ini : ∃ (fI : Addr) (name qual : Str) (params : Arguments) (body : List Stmt) (scope : Scope) (dV kV doc pm cdv ct oc : Value) (an od : Option Addr) (osl : Array (Option Value)) (N ps : List Str),
    PySem.W.findIn K (.ref A) "__init__" = some (some (.ref fI)) ∧ PySem.W.typeIn K (.ref fI) = some (.type "function") ∧ K.lookup fI = some ⟨oc, od, .func (PySem.W.fnOf name qual params body scope dV kV doc pm an cdv ct), osl⟩ ∧ PySem.W.codeIn K cdv qual = true ∧
      FnScope N ps scope ∧ ps.length = fl.length + 1 ∧ Binds K (PySem.W.fnOf name qual params body scope dV kV doc pm an cdv ct) ps [] ∧ chkIni N scope (flIx fl 1) body = true
theorem mk_of_ini {X : Cx} {A : Addr} {x : Str} {fl : List Str} (T : IniC X.K A fl) (hr : Room 2 X.A) (hm : X.mg x = some (.ref A)) (hdb : (x == ("__debug__" : Str)) = false) : MkC X A x fl := by
  intro hg pn xe e es ta p pos ha hst hpl
  obtain ⟨fI, name, qual, params, body, scope, dV, kV, doc, pm, cdv, ct, oc, an, od, osl, N, ps, k1, k2, k3, k4, S, k5, k6, k7⟩ := T.ini
  have F : FnOk X.prog X.w X.K X.mg X.base (L2.CX X.prog X.w) 1 fI (PySem.W.fnOf name qual params body scope dV kV doc pm an cdv ct) ps (iniSp A fl) := by
    refine fn_of (N := N) k3 k4 S (fun vs H Q E ⟨a, ws, e, h, _⟩ => by rw [e, k5, List.length_cons, h]) fun A' outer s H vs Q E hr' hsp => ?_
    obtain ⟨a, ws, rfl, h1, h2, k⟩ := hsp
    match fl, T, k7, h1, k, k5 with
    | [], T, _, _, _, _ => exact absurd rfl T.le.1
    | f :: fr, T, k7, h1, k, k5 =>
      have hσ : ∀ i v, (V.ref a :: ws)[i]? = some v → (L2.start N (V.ref a :: ws))[i]? = some (some v) := fun i v e => by
        unfold L2.start
        have hi : i < (V.ref a :: ws).length := (List.getElem?_eq_some_iff.mp e).1
        rw [List.getElem?_append_left (by rw [List.length_map]; exact hi), List.getElem?_map, e]
        rfl
      refine ⟨_, ini_body (X := cxOf (L2.CX X.prog X.w) X.prog X.w X.K X.mg X.base N qual scope fI cdv A' outer s H E) T.T f 1 (flIx fr 2) body k7 (fun p hp => T.no _ (flIx_mem (fl := f :: fr) (k := 1) hp).1), a, hσ 0 _ rfl, h2, ?_, fun p hp => ?_, fun d H2 e1 e2 e3 e4 e5 => ?_⟩
      · have := T.le.2
        have hl : ∀ (l : List Str) (k : Nat), (flIx l k).length = l.length := fun l => by
          induction l with
          | nil => intro k; rfl
          | cons f r ih => intro k; simp [flIx, ih]
        rw [hl]
        simp at this
        omega
      · obtain ⟨_, q1, q2⟩ := flIx_mem (fl := f :: fr) (k := 1) hp
        have hlt : p.2 < (V.ref a :: ws).length := by
          rw [List.length_cons, h1]
          omega
        obtain ⟨v, hv⟩ : ∃ v, (V.ref a :: ws)[p.2]? = some v := ⟨_, List.getElem?_eq_getElem hlt⟩
        exact ⟨v, hσ _ _ hv⟩
      · refine k d _ H2 e1 e2 e3 e4 e5 fun g => ?_
        rw [show ((f, 1) :: flIx fr 2) = flIx (f :: fr) 1 from rfl, putF_rev h1 fun i v e => hσ (1 + i) v (by rw [Nat.add_comm]; simpa using e)]
        rw [List.append_nil]
        refine lookup_rev ?_
        rw [List.map_fst_zip (by omega)]
        exact T.nd
  have hx : Passes (L2.CX X.prog X.w) (X.tr pn xe) (fun _ _ _ => False) := fun pins σ H s e s' I h => by
    obtain ⟨_, _, _, _, _, _, _, _, _, _, _, _, z⟩ := h
    exact z.elim
  intro pins s σ H Q I h
  refine pmk_oex (X := X.tr pn xe) (e := e) (es := es) (dvs := []) T.T k1 k2 F hr k6 .nil hx hg hm (PA.clo ha) hdb hst hpl pins s σ H Q I ⟨_, h, fun vs H1 ⟨q1, q2⟩ => ?_⟩
  refine ⟨by have := T.le.2; omega, fun a ha => ⟨a, vs, by rw [List.append_nil], q1, upd_same, fun d fv H2 e1 e2 e3 e4 e5 e6 => ⟨rfl, d, fv, e3, e4, ?_, ?_⟩⟩⟩
  · rw [upd_ne e2] at e1
    exact e1
  · have e1' : H1 d = none := by
      rw [upd_ne e2] at e1
      exact e1
    have hH : upd (del H2 a) d (.xd fv) = upd H1 d (.xd fv) := by
      funext b
      by_cases hb : b = d
      · subst hb
        rw [upd_same, upd_same]
      · rw [upd_ne hb, upd_ne hb]
        by_cases hba : b = a
        · subst hba
          rw [del_same, ha]
        · rw [del_ne hba, e5 b hba hb, upd_ne hba]
    rw [hH]
    exact q2 d fv e1' e6
end PV
set_option Elab.async false
set_option linter.all false
set_option autoImplicit false
set_option maxRecDepth 100000
set_option maxHeartbeats 4000000
namespace PV
open PySem PySem.Spec PyProof.Rows L2
section
variable {ω : World} {K : PySem.W.Frag} {r r' : RA} {H H0 H' : Hp}
mutual
theorem Rep.down (hp : r <+: r') : ∀ (d : D) (v0 v : V), Rep K r H0 d v0 → Rep K r' H' d v → Rep K r H' d v
  | .non, _, _, _, h => h
  | .bl _, _, _, _, h => h
  | .int _, _, _, _, h => h
  | .str _, _, _, _, h => h
  | .tup ds, v0, v, h0, h => by
    obtain ⟨a0, vs0, _, _, t0⟩ := h0
    obtain ⟨a, vs, e, q, t⟩ := h
    exact ⟨a, vs, e, q, RepL.down hp ds vs0 vs t0 t⟩
  | .fn _, _, _, _, h => h
  | .ref i, v0, v, h0, h => by
    obtain ⟨a0, w0, e0, _⟩ := h0
    obtain ⟨a, w, e, z⟩ := h
    have hi : i < r.length := (List.getElem?_eq_some_iff.mp e0).1
    refine ⟨a, w, ?_, z⟩
    obtain ⟨t, rfl⟩ := hp
    rw [List.getElem?_append_left hi] at e
    exact e
theorem RepL.down (hp : r <+: r') : ∀ (ds : List D) (vs0 vs : List V), RepL K r H0 ds vs0 → RepL K r' H' ds vs → RepL K r H' ds vs
  | [], _, _, _, h => h
  | d :: ds, vs0, vs, h0, h => by
    obtain ⟨v0, vr0, _, k1, k2⟩ := h0
    obtain ⟨v, vr, e, h1, h2⟩ := h
    exact ⟨v, vr, e, Rep.down hp d v0 v k1 h1, RepL.down hp ds vr0 vr k2 h2⟩
end
theorem RepKV.down (hp : r <+: r') : ∀ (kvs : KV) (x0 x : List DE), RepKV K r H0 kvs x0 → RepKV K r' H' kvs x → RepKV K r H' kvs x
  | [], _, _, _, h => h
  | p :: ps, x0, x, h0, h => by
    obtain ⟨y0, yr0, _, _, _, ⟨v0, _, k1⟩, ⟨u0, _, k2⟩, k3⟩ := h0
    obtain ⟨y, yr, e, h1, h2, ⟨v, h3, h4⟩, ⟨u, h5, h6⟩, h7⟩ := h
    exact ⟨y, yr, e, h1, h2, ⟨v, h3, Rep.down hp _ _ _ k1 h4⟩, ⟨u, h5, Rep.down hp _ _ _ k2 h6⟩, RepKV.down hp ps yr0 yr k3 h7⟩
theorem RepF.down (hp : r <+: r') : ∀ (fs : List (Str × D)) (x0 x : List (Str × V)), RepF K r H0 fs x0 → RepF K r' H' fs x → RepF K r H' fs x
  | [], _, _, _, h => h
  | p :: ps, x0, x, h0, h => by
    obtain ⟨v0, vr0, _, k1, k2⟩ := h0
    obtain ⟨v, vr, e, h1, h2⟩ := h
    exact ⟨v, vr, e, Rep.down hp _ _ _ k1 h1, RepF.down hp ps vr0 vr k2 h2⟩
theorem RO.down (hp : r <+: r') {a : Addr} {o : MO} (h0 : RO ω K r H0 a o) (h : RO ω K r' H' a o) : RO ω K r H' a o := by
  cases o with
  | lst w xs =>
    cases w with
    | true =>
      obtain ⟨vs0, _, t0⟩ := h0
      obtain ⟨vs, e, t⟩ := h
      exact ⟨vs, e, RepL.down hp xs vs0 vs t0 t⟩
    | false =>
      obtain ⟨vs0, _, t0⟩ := h0
      obtain ⟨vs, e, t⟩ := h
      exact ⟨vs, e, RepL.down hp xs vs0 vs t0 t⟩
  | dct ep kvs =>
    obtain ⟨xs0, _, _, t0⟩ := h0
    obtain ⟨xs, e, n, t⟩ := h
    exact ⟨xs, e, n, RepKV.down hp kvs xs0 xs t0 t⟩
  | ins c fs =>
    obtain ⟨_, fv0, _, t0⟩ := h0
    obtain ⟨dx, fv, e, t⟩ := h
    exact ⟨dx, fv, e, RepF.down hp fs fv0 fv t0 t⟩
theorem pre_at {α : Type} {l l' : List α} (h : l <+: l') {i : Nat} {x : α} (e : l[i]? = some x) : l'[i]? = some x := by
  obtain ⟨t, rfl⟩ := h
  rw [List.getElem?_append_left (List.getElem?_eq_some_iff.mp e).1]
  exact e
theorem Rel.down {M M' : List MO} (hp : r <+: r') (hM : M <+: M') (R0 : Rel ω K r M H0) (R : Rel ω K r' M' H') : Rel ω K r M H' :=
  ⟨R0.len, R0.nd, fun i o a w e q => ⟨(R0.obj i o a w e q).1, RO.down hp (R0.obj i o a w e q).2 (R.obj i o a w (pre_at hM e) (pre_at hp q)).2⟩⟩
theorem Fx.down {τ : TBT} (f : Fx τ r H r' H') : Fx τ r H r H' := ⟨List.prefix_rfl, f.ext, fun a u e z n => ⟨(f.frm a u e z n).1, n⟩, fun t p hp => by
  obtain ⟨n1, ps, e1, t1, c1⟩ := f.tab t p hp
  refine ⟨(t p hp).1, ps, e1, t1, fun pos cv z => ?_⟩
  obtain ⟨c, k1, k2, k3⟩ := c1 pos cv z
  exact ⟨c, k1, k2, fun y => k3 (f.pre.subset y)⟩⟩
theorem Rel.downL {M M' : List MO} {p : Nat} {a : Addr} {xs : List D} (hp : r <+: r') (hM : M <+: M') (R0 : Rel ω K r M H0) (R : Rel ω K r' M' H') (hn : M.length ≤ p) (e : M'[p]? = some (.lst true xs)) (q : r'[p]? = some (a, true)) (hi : D.immL xs = true) :
    Rel ω K (r ++ [(a, true)]) (M ++ [.lst true xs]) H' := by
  have fresh : ∀ {i : Nat} {b : Addr}, i < r.length → r[i]? = some (b, true) → b ≠ a := fun {i b} hi z1 z2 => by
    subst z2
    have := R.nd i p b (pre_at hp z1) q
    rw [R0.len] at hi
    omega
  refine ⟨by simp [R0.len], fun i j b q1 q2 => ?_, fun i o b w e1 q1 => ?_⟩
  · rcases snoc_at q1 with ⟨h1, z1⟩ | ⟨h1, z1⟩
    · rcases snoc_at q2 with ⟨h2, z2⟩ | ⟨h2, z2⟩
      · exact R0.nd i j b z1 z2
      · cases z2
        exact absurd rfl (fresh h1 z1)
    · rcases snoc_at q2 with ⟨h2, z2⟩ | ⟨h2, z2⟩
      · cases z1
        exact absurd rfl (fresh h2 z2)
      · omega
  · rcases snoc_at e1 with ⟨h1, z1⟩ | ⟨h1, z1⟩
    · rcases snoc_at q1 with ⟨h2, z2⟩ | ⟨h2, z2⟩
      · obtain ⟨k1, k2⟩ := (Rel.down hp hM R0 R).obj i o b w z1 z2
        exact ⟨k1, k2.mono (List.prefix_append _ _) (Ext.refl _) fun _ => rfl⟩
      · rw [R0.len] at h2
        omega
    · rcases snoc_at q1 with ⟨h2, z2⟩ | ⟨h2, z2⟩
      · rw [R0.len] at h2
        omega
      · cases z2
        subst z1
        obtain ⟨_, vs, e2, t⟩ := R.obj p _ _ _ e q
        exact ⟨rfl, vs, e2, RepL.imm (Ext.refl _) xs vs hi t⟩
theorem Fx.downL {τ : TBT} {p : Nat} {a : Addr} (f : Fx τ r H r' H') (q : r'[p]? = some (a, true)) : Fx τ r H (r ++ [(a, true)]) H' := by
  have ap : ∀ {b : Addr}, (b, true) ∉ r → (b, true) ∉ r' → (b, true) ∉ r ++ [(a, true)] := fun {b} n n' z => by
    rcases List.mem_append.mp z with z | z
    · exact n z
    · have z' := List.mem_singleton.mp z
      cases z'
      exact n' (List.mem_of_getElem? q)
  refine ⟨List.prefix_append _ _, f.ext, fun b u e z n => ⟨(f.frm b u e z n).1, ap n (f.frm b u e z n).2⟩, fun t p hp => ?_⟩
  obtain ⟨n1, ps, e1, t1, c1⟩ := f.tab t p hp
  refine ⟨ap (t p hp).1 n1, ps, e1, t1, fun pos cv z => ?_⟩
  obtain ⟨c, k1, k2, k3⟩ := c1 pos cv z
  exact ⟨c, k1, k2, ap (fun y => k3 (f.pre.subset y)) k3⟩
end
theorem fin_ok {K : PySem.W.Frag} {C : Cn} {W : WX} {b : List MO} {s : HS b} {r : RA} {H : Hp} {d : D} {s1 : HS s.M} {o : Out b D} {Q : VK} (R : Rel C.w K r s.M H) (h : fin s d s1 = some o) (post : PostG (RD K) K C W [] r H o Q) :
    ∀ r' H' v, Fx C.tb r H r' H' → Rel C.w K r' s1.M H' → Rep K r' H' d v → Q v H' := by
  intro r' H' v fx R1 q
  unfold fin at h
  split at h
  · rename_i hlo
    have hM : s.M <+: s1.M := by
      have := s1.ok
      rw [hlo, List.take_length] at this
      exact this
    split at h
    · rename_i d' x hpl
      cases h
      unfold pull at hpl
      split at hpl
      · rename_i p
        split at hpl
        · cases hpl
        · rename_i hlt
          split at hpl
          · rename_i xs hm
            split at hpl
            · rename_i him
              cases hpl
              obtain ⟨a, w, ha, rfl⟩ := q
              have hw := (R1.obj p _ a w hm ha).1
              have hw' : w = true := hw
              subst hw'
              exact post _ _ _ (fx.downL ha) (R.downL fx.pre hM R1 (by omega) hm ha him) ⟨a, true, by rw [← R.len]; simp, rfl⟩
            · cases hpl
          · cases hpl
      · rename_i d0 hd0
        split at hpl
        · rename_i him
          cases hpl
          refine post r H' v fx.down ?_ (Rep.imm (Ext.refl _) d v him q)
          have e : (s.grow []).M = s.M := List.append_nil _
          rw [e]
          exact Rel.down fx.pre hM R R1
        · cases hpl
    · cases h
      exact post r' H' v fx R1 q
  · cases h
    exact post r' H' v fx R1 q
theorem start_env {K : PySem.W.Frag} {r : RA} {H : Hp} {C : Cn} (hx : C.xg = none) {N : List Str} {ds : List D} {vs : List V} (hT : TabsR C.tb r H) (t : RepL K r H ds vs) : EnvR C K r H (ds.map some ++ List.replicate (N.length - ds.length) none) (L2.start N vs) := by
  have hl := RepL.length t
  refine ⟨by simp [L2.start, hl], fun i d e => ?_, fun _ _ _ _ z => (by rw [hx] at z; cases z), hT⟩
  have hi : i < ds.length := by
    by_cases hi : i < ds.length
    · exact hi
    · rw [List.getElem?_append_right (by simpa using hi), List.getElem?_replicate] at e
      split at e <;> cases e
  rw [List.getElem?_append_left (by simpa using hi), List.getElem?_map] at e
  have e' : ds[i]? = some d := by
    cases q : ds[i]? with
    | none => rw [q] at e; cases e
    | some x => rw [q] at e; cases e; rfl
  obtain ⟨v, e1, e2⟩ := t.get e'
  refine ⟨v, ?_, e2⟩
  unfold L2.start
  rw [List.getElem?_append_left (by rw [List.length_map, hl]; exact hi), List.getElem?_map, e1]
  rfl
def Pg.ev (p : Pg) (k : Nat) : Ev := ⟨fun {_} => callF p k, p.fu, p.flds, p.isx, p.mt, p.ar, p.mth, p.ini, p.fok, p.isc⟩
theorem callF_some {p : Pg} {k : Nat} {b : List MO} {f : Nat} {ds : List D} {s : HS b} {o : Out b D} (h : callF p (k + 1) f ds s = some o) :
    ∃ d, p.tb f = some d ∧ ds.length = d.ps ∧ finish s (exB (p.ev k) none d.body (ds.map some ++ List.replicate (d.n - ds.length) none) (HS.start s.M)) = some o := by
  simp only [callF] at h
  split at h
  · cases h
  · rename_i d hd
    split at h
    · rename_i hl
      exact ⟨d, hd, hl, h⟩
    · cases h
structure DfOk (T : Tb) (pg : Pg) (C : Cn) (cs : List (Addr × Addr)) (K : PySem.W.Frag) (f : Nat) (fa : Addr) (fd : FuncData) (ps : List Str) : Prop where
  kp : PySem.W.keepIn K (.ref fa) = true
  bd : T.pl f = true → Binds K fd ps []
  ka : ∀ a, pg.ar f = some a → KaOk K fd ps a
  pl : ∀ d, pg.tb f = some d → d.ps = ps.length
  ex : ∃ (oc : Value) (od : Option Addr) (osl : Array (Option Value)) (name qual : Str) (params : Arguments) (body : List Stmt) (scope : Scope) (dV kV doc pm cdv ct : Value) (an : Option Addr) (N : List Str),
    fd = PySem.W.fnOf name qual params body scope dV kV doc pm an cdv ct ∧ K.lookup fa = some ⟨oc, od, .func fd, osl⟩ ∧ PySem.W.codeIn K cdv qual = true ∧ FnScope N ps scope ∧ (T.lm.contains N = true → ∃ c p, cdv = .ref c ∧ (c, p) ∈ cs ∧ (p, qual ++ ".<locals>." ++ "<lambda>") ∈ C.tb ∧ ∀ t, t ∈ C.tb → t.1 = p → t.2 = qual ++ ".<locals>." ++ "<lambda>") ∧ ∀ d, pg.tb f = some d → d.n = N.length ∧ chkBk T false N scope d.body body = true
structure NmOk (T : Tb) (pg : Pg) (C : Cn) (cs : List (Addr × Addr)) (K : PySem.W.Frag) (mg : Str → Option Value) (f : Nat) (x : Str) (fa : Addr) (fd : FuncData) (ps : List Str) : Prop where
  mq : mg x = some (.ref fa)
  df : DfOk T pg C cs K f fa fd ps
structure Dfs (T : Tb) (pg : Pg) (C : Cn) (cs : List (Addr × Addr)) (K : PySem.W.Frag) (mg : Str → Option Value) : Prop where
  xg : C.xg = none
  fu : pg.fu ≤ sizeLine
  gl : ∀ x i, T.gl.lookup x = some i → ∃ t, mg x = some (.int i t)
  fr : ∀ x, x ∈ T.fr → mg x = none
  nm : ∀ f x, T.nm f = some x → ∃ (fa : Addr) (fd : FuncData) (ps : List Str), NmOk T pg C cs K mg f x fa fd ps
  mkx : ∀ c x, T.cn c = some x → mg x = some (.ref (C.ad c)) ∧ (x == ("__debug__" : Str)) = false ∧ IniC K (C.ad c) (pg.flds c)
  mt : ∀ x, x ∈ T.xs → ∃ v, ((x == ("__debug__" : Str)) = false ∧ (mg x = some v ∨ (mg x = none ∧ bootBuiltins x = some v ∧ x ≠ "__name__"))) ∧ ∀ c b, pg.mt c x = some b → PySem.W.exmOne K (.ref (C.ad c)) v = some b
  xc : ∀ c x b, pg.mt c x = some b → XcC K (pg.ev 0) c (C.ad c)
  me : ∀ c m f, pg.mth c m = some f → Cls K (He.ga K c) ∧ ∃ (fa : Addr) (fd : FuncData) (ps : List Str), Meth K (He.ga K c) m fa ∧ DfOk T pg C cs K f fa fd ps
  iw : ∀ c f, pg.ini c = some f → mg c = some (.ref (He.ga K c)) ∧ ∃ (fa : Addr) (fd : FuncData) (ps : List Str), Mk K (He.ga K c) fa ∧ DfOk T pg C cs K f fa fd ps
  fd : ∀ c f, pg.fok c f = true → Cls K (He.ga K c) ∧ NoAttr K (He.ga K c) f
  ic : ∀ c, pg.isc c = true → mg c = some (.ref (He.ga K c)) ∧ InsK K (He.ga K c) ∧ (∀ t ∈ ["NoneType", "bool", "int", "str", "tuple", "list", "dict"], PySem.W.kitOne K (.type t) (.ref (He.ga K c)) = some false) ∧ ∀ c', pg.isc c' = true → PySem.W.kitOne K (.ref (He.ga K c')) (.ref (He.ga K c)) = some (decide (c' = c))
theorem all_g {T : Tb} {pg : Pg} {C : Cn} {K : PySem.W.Frag} {mg : Str → Option Value} {cs : List (Addr × Addr)} (S : Dfs T pg C cs K mg) {P : Program} {w : World} {base : Heap} (hw : C.w = w) (hB : ∀ q, q ∈ cs → LamX.TabB base mg q.1 q.2) : ∀ (k f : Nat) (fa : Addr) (fd : FuncData) (ps : List Str), DfOk T pg C cs K f fa fd ps →
    FnG P w K mg base (9 * k + 2) fa fd ps (spOf K C (fun {_} => callF pg k) f)
  | 0, f, fa, fd, ps, hx => by
    have no : ∀ {vs : List V} {H : Hp} {Q : VK} {E : XK}, spOf K C (fun {_} => callF pg 0) f vs H Q E → False := fun ⟨b, s, r, ds, o, R, hT, t, e, q⟩ => by cases e
    exact ⟨fun vs H Q E h => (no h).elim, fun A outer s H args us vs Q E _ _ _ _ _ h => (no h).elim⟩
  | k + 1, f, fa, fd, ps, hx => by
    obtain ⟨h2, h3, h3a, h4, oc, od, osl, name, qual, params, body, scope, dV, kV, doc, pm, cdv, ct, an, N, rfl, lk, hcd, sc, hlm, hck⟩ := hx
    refine fn_g (k := 9 * k + 10) (N := N) lk hcd sc (fun vs H Q E ⟨b, s, r, ds, o, R, hT, t, e, q⟩ => ?_) fun A outer s H vs Q E hr hgd hsp => ?_
    · obtain ⟨d, hd, hl, _⟩ := callF_some e
      rw [RepL.length t, hl, h4 d hd]
    · have fat : ∀ n, 9 * k + 7 ≤ n → FnAt T (pg.ev k) C n (cxOf (L2.CX P w) P w K mg base N qual scope fa cdv A outer s H E) := fun n hn => by
        refine ⟨fun g y hy => ?_, fun c m g a hg ha => ?_, fun c g a hg ha => ?_, S.fd, S.ic⟩
        · obtain ⟨fa', fd', ps', z⟩ := S.nm g y hy
          exact ⟨9 * k + 2, fa', fd', ps', by omega, z.mq, z.df.kp, z.df.bd, z.df.ka, all_g S (P := P) (w := w) (base := base) hw hB k g fa' fd' ps' z.df⟩
        · obtain ⟨cls, fa', fd', ps', M, z⟩ := S.me c m g hg
          exact ⟨cls, 9 * k + 2, fa', fd', ps', by omega, M, z.ka a ha, all_g S (P := P) (w := w) (base := base) hw hB k g fa' fd' ps' z⟩
        · obtain ⟨hm, fa', fd', ps', M, z⟩ := S.iw c g hg
          exact ⟨hm, 9 * k + 2, fa', fd', ps', by omega, M, z.ka a ha, all_g S (P := P) (w := w) (base := base) hw hB k g fa' fd' ps' z⟩
      obtain ⟨b, s0, r, ds, o, R, hT, t, e, q⟩ := hsp
      obtain ⟨d, hd, hl, hf⟩ := callF_some e
      obtain ⟨hn, hc⟩ := hck d hd
      have tk : Takes (cxOf (L2.CX P w) P w K mg base N qual scope fa cdv A outer s H E) (fun cls dd _ H' => E cls dd H') := L2.takes_of rfl rfl rfl rfl
      have G : Gs T (pg.ev k) C false none (fun cls dd _ H' => E cls dd H') (9 * k + 10) (cxOf (L2.CX P w) P w K mg base N qual scope fa cdv A outer s H E) := by
        refine ⟨⟨hw, sc.nd, by have := hr.un; show (A.deeper (envOfC qual scope s.heap.objs.size fa cdv)).units + 200 < _; omega, hgd, S.fu, S.gl, S.fr, fun _ => rfl, fun _ => hr, fun _ => rfl, fun _ => S.xg, tk, fun _ _ => ⟨9 * k + 7, hr, fat _ (Nat.le_refl _)⟩, fun z => ?_, fat _ (by omega), fun _ _ _ _ _ _ _ _ => no_excf, fun _ _ _ _ _ _ _ _ _ _ _ _ _ _ => no_exci⟩, sc.kind, fun _ => rfl, fun _ => L2.passes_of rfl, rfl, rfl, fun _ c y hy => ?_, S.mt, fun c x b h => ⟨(S.xc c x b h).xf, (S.xc c x b h).no, (S.xc c x b h).is⟩⟩
        · obtain ⟨c, p, rfl, h6, h7, h8⟩ := hlm z
          exact ⟨c, p, hB _ h6, rfl, h7, h8⟩
        · obtain ⟨k1, k2, k3⟩ := S.mkx c y hy
          exact mk_of_ini k3 (hr.mono (by omega)) k1 k2
      refine ⟨_, sndBk d.body G body hc, ?_⟩
      cases hu : exB (pg.ev k) none d.body (ds.map some ++ List.replicate (d.n - ds.length) none) (HS.start s0.M) with
      | none => rw [hu] at hf; cases hf
      | some u =>
        rw [hu] at hf
        refine ⟨s0.M, HS.start s0.M, r, _, u, R, by rw [hn]; exact start_env S.xg hT t, hu, ?_⟩
        cases u with
        | nx e1 s1 => exact fun r' H' σ' fx R1 _ => fin_ok R hf q r' H' .non fx R1 rfl
        | rt d1 s1 => exact fun r' H' v fx R1 rp => fin_ok R hf q r' H' v fx R1 rp
        | ex c fs e1 s1 =>
          cases hf
          exact fun r' H' dd σ' fx R1 _ xd => q r' H' dd fx R1 xd
theorem law_gT {P : Program} {w : World} {K : PySem.W.Frag} {mg mb : Str → Option Value} {k : Nat} {fa a : Addr} {fd : FuncData} {x : Str} {sp : Sp} {s1 : Shared} {vs : List Value} {ns : List Int} {cs : List (Addr × Addr)}
    (KX : K.In s1.heap) (hns : s1.heap.Ns mainGlobals mg) (hb : s1.heap.Ns builtinsNs mb) (hbb : ∀ x : Str, x ≠ "__name__" → mb x = bootBuiltins x) (hlim : s1.heap.NoLimit) (hg : s1.gens = #[])
    (hT : ∀ p, p ∈ cs → s1.heap.get? p.2 = some { cls := .none, data := .fields #[] }) (nT : ∀ p, p ∈ cs → K.lookup p.2 = none) (hC : ∀ p, p ∈ cs → PySem.W.CodeHd s1.heap p.1 p.2)
    (hbm : ∃ (bm : Addr) (ob : Obj), mg "__builtins__" = some (.ref bm) ∧ bm ≠ builtinsNs ∧ s1.heap.get? bm = some ob ∧ ob.cls = .type "module" ∧ ob.dict = some builtinsNs ∧ ob.data = .plain)
    (ha : s1.heap.get? a = some { cls := .type "list", data := .seq vs.toArray }) (hi : IntsAre vs ns) (hl : ns.length ≤ sizeLine) (hr : Room k callerA)
    (F : ∀ base : Heap, K.In base → base.Ns mainGlobals mg → (∀ p, p ∈ cs → LamX.TabB base mg p.1 p.2) → FnG P w K mg base k fa fd [x] sp) (hbind : ∀ (s : Shared) (u : Value), BindsTo s fd ⟨[u], []⟩ [(x, u)])
    (hsp : ∀ H : Hp, (∀ p, p ∈ cs → H p.2 = some (.tbl #[])) → Fz K H a (ns.map V.int) → sp [.ref a] H (fun v _ => v = .bl true) fun _ _ _ => False) :
    codeAny (model P w) callerA (.call (.ref fa) ⟨[.ref a], []⟩) (fun r s' => r = .ok (.ret (.bool true)) ∧ OldK s1.heap s'.heap ∧ s'.os = s1.os ∧ AllBare s'.gens) s1 := by
  have lenV := hi.length
  let tb : Addr → Prop := fun b => ∃ p, p ∈ cs ∧ p.2 = b
  have isT : ∀ {b}, tb b → s1.heap.get? b = some { cls := .none, data := .fields #[] } := fun {b} ⟨p, hp, e⟩ => by rw [← e]; exact hT p hp
  have go : ∀ H : Hp, (∀ b u, H b = some u → (b = a ∧ K.lookup a = none ∧ ∃ o xs, u = .frz o (.lst xs)) ∨ (tb b ∧ u = .tbl #[])) → (∀ p, p ∈ cs → H p.2 = some (.tbl #[])) → Fz K H a (ns.map V.int) → HOk P w H s1.heap →
      codeAny (model P w) callerA (.call (.ref fa) ⟨[.ref a], []⟩) (fun r s' => r = .ok (.ret (.bool true)) ∧ OldK s1.heap s'.heap ∧ s'.os = s1.os ∧ AllBare s'.gens) s1 := by
    intro H hO hH hS hok
    have only : ∀ {b : Addr} {o : Obj}, s1.heap.get? b = some o → (∀ l n, o.data ≠ .seq l n) → o.data ≠ .fields #[] → H b = none := fun {b o} e h1 h2 => by
      cases q : H b with
      | none => rfl
      | some u =>
        rcases hO b u q with ⟨z, _⟩ | ⟨z, _⟩
        · rw [z, ha] at e
          cases e
          exact absurd rfl (h1 _ _)
        · rw [isT z] at e
          cases e
          exact absurd rfl h2
    have nsK : ∀ {b : Addr} {m : Str → Option Value}, s1.heap.Ns b m → (hidT s1.heap H).Ns b m := fun {b m} ⟨o, es, ep, e, d, r⟩ => ⟨o, es, ep, hidT_get e (only e (fun l n z => by rw [d] at z; cases z) fun z => by rw [d] at z; cases z), d, r⟩
    have hKb : K.In (hidT s1.heap H) := fun b o e => hidT_get (KX b o e) (by
      cases q : H b with
      | none => rfl
      | some u =>
        rcases hO b u q with ⟨z, z2, _⟩ | ⟨⟨p, hp, z⟩, _⟩
        · rw [z, z2] at e
          cases e
        · rw [← z, nT p hp] at e
          cases e)
    have hM : Mod K mg (hidT s1.heap H) := ⟨hKb, nsK hns, ⟨mb, nsK hb, hbb⟩, let ⟨mc, h1, h2⟩ := hlim; ⟨mc, nsK h1, h2⟩⟩
    have TB : ∀ p, p ∈ cs → LamX.TabB (hidT s1.heap H) mg p.1 p.2 := fun p hp => by
      have ht := hT p hp
      refine ⟨?_, ?_, fun z => ?_⟩
      · obtain ⟨o, us, file, tf, flags, tg, inF, text, tt, e1, r1, r2, r3, rr⟩ := hC p hp
        refine ⟨o, us, file, tf, flags, tg, inF, text, tt, hidT_get e1 (only e1 (fun l n z => by rw [r2] at z; cases z) fun z => ?_), r1, r2, r3, rr⟩
        rw [r2] at z
        cases z
        simp at r3
      · obtain ⟨bm, ob, b1, b2, b3, b4, b5, b6⟩ := hbm
        have nG : bm ≠ mainGlobals := fun q => by
          obtain ⟨o, es, ep, e, hd, _⟩ := hns
          rw [← q, b3] at e
          cases e
          rw [b6] at hd
          cases hd
        have nP : bm ≠ p.2 := fun q => by
          rw [← q, b3] at ht
          cases ht
          cases b6
        exact ⟨bm, ob, b1, b2, nG, nP, hidT_get b3 (only b3 (fun l n z => by rw [b6] at z; cases z) fun z => by rw [b6] at z; cases z), b4, b5, b6⟩
      · obtain ⟨o, es, ep, e, hd, _⟩ := hns
        rw [z, ht] at e
        cases e
        cases hd
    have e0 : Env0 P w K mg (hidT s1.heap H) callerA [] s1 H := ⟨rfl, hM, fun b o e => of_hidT e, Nat.le_of_eq (hidT_size _ _), trivial, fun b hb => (by cases (show b ∈ ([] : List Addr) from hb)), hok, .of_eq hg⟩
    refine codeAny_mono ((F _ hKb (nsK hns) TB).run callerA [] s1 H ⟨[.ref a], []⟩ [.ref a] [.ref a] _ _ hr rfl e0 (hbind s1 (.ref a)) (.cons rfl .nil) (hsp H hH hS)) fun r s' h => ?_
    match r, h with
    | .error e, h =>
      obtain ⟨_, _, _, _, _, _, _, _, _, _, _, _, z⟩ := h
      exact z.elim
    | .ok .next, h => exact False.elim h
    | .ok .brk, h => exact False.elim h
    | .ok .cont, h => exact False.elim h
    | .ok (.ret u), ⟨v, H', os, bare, un, hok', r', q⟩ =>
      subst q
      obtain rfl : u = Value.bool true := r'
      have keep : ∀ b o, ¬ tb b → s1.heap.get? b = some o → s'.heap.get? b = some o := fun b o nb e => by
        cases q : H b with
        | none => exact un.keep b o e q (fun z => (by cases (show b ∈ ([] : List Addr) from z))) (by simp)
        | some y =>
          rcases hO b y q with ⟨_, _, ob, xs, rfl⟩ | ⟨z, _⟩
          · have e2 := (hok' b _ (un.frzs b ob _ q)).1
            have e1 := (hok b _ q).1
            rw [e] at e1
            cases e1
            exact e2
          · exact absurd z nb
      refine ⟨rfl, ⟨fun b o e => ?_, fun b o e => ?_⟩, os, bare⟩
      · by_cases hb : tb b
        · obtain ⟨p, hp, rfl⟩ := hb
          obtain ⟨more, z⟩ := un.tbls p.2 #[] (hH p hp)
          have e2 := hok' p.2 _ z
          rw [hT p hp] at e
          cases e
          exact .inr (.inl ⟨((hC p hp).tab (hT p hp)).isCodeTable, rfl, #[], more, rfl, e2⟩)
        · exact .inl (keep b o hb e)
      · by_cases hb : tb b
        · obtain ⟨p, hp, rfl⟩ := hb
          obtain ⟨more, z⟩ := un.tbls p.2 #[] (hH p hp)
          exact ⟨_, hok' p.2 _ z⟩
        · exact ⟨o, keep b o hb e⟩
  have nta : ¬ tb a := fun z => by
    have q := isT z
    rw [ha] at q
    cases q
  let H0 : Hp := fun b => if b ∈ cs.map (·.2) then some (.tbl #[]) else none
  have tbm : ∀ {b}, tb b ↔ b ∈ cs.map (·.2) := fun {b} => by simp [tb]
  have h0 : ∀ {b u}, H0 b = some u → tb b ∧ u = .tbl #[] := fun {b u} z => by
    by_cases h : b ∈ cs.map (·.2)
    · exact ⟨tbm.mpr h, (Option.some.inj ((if_pos h).symm.trans z)).symm⟩
    · have z' := (if_neg h).symm.trans z
      cases z'
  have h0t : ∀ p, p ∈ cs → H0 p.2 = some (.tbl #[]) := fun p hp => if_pos (List.mem_map.mpr ⟨p, hp, rfl⟩)
  cases hk : K.lookup a with
  | some o =>
    have e := KX a o hk
    rw [ha] at e
    cases e
    refine go H0 (fun b u z => .inr (h0 z)) h0t (.inr ⟨_, vs.toArray, _, hk, rfl, rfl, rfl, by rw [List.size_toArray, lenV]; exact hl, by simpa using vals_ints hi⟩) (fun b u z => ?_)
    obtain ⟨h1, rfl⟩ := h0 z
    exact isT h1
  | none =>
    refine go (upd H0 a (.frz { cls := .type "list", data := .seq vs.toArray } (.lst (ns.map V.int)))) (fun b u z => ?_) (fun p hp => ?_) (.inl ⟨_, upd_same⟩) (fun b u z => ?_)
    · by_cases h : b = a
      · subst h
        rw [upd_same] at z
        cases z
        exact .inl ⟨rfl, hk, _, _, rfl⟩
      · rw [upd_ne h] at z
        exact .inr (h0 z)
    · rw [upd_ne (fun z => nta ⟨p, hp, z⟩)]
      exact h0t p hp
    · by_cases h : b = a
      · subst h
        rw [upd_same] at z
        cases z
        exact ⟨ha, by rw [List.length_map]; exact hl, vs, _, vals_ints hi, ha⟩
      · rw [upd_ne h] at z
        obtain ⟨h1, rfl⟩ := h0 z
        exact isT h1
end PV
set_option Elab.async false
set_option linter.all false
set_option autoImplicit false
set_option maxRecDepth 100000
set_option maxHeartbeats 4000000
namespace PV
open PySem PySem.Spec PyProof.Rows L2
theorem fm_congr {α β : Type} {f g : α → Option β} : ∀ {l : List α}, (∀ x ∈ l, f x = g x) → l.filterMap f = l.filterMap g
  | [], _ => rfl
  | x :: l, h => by
    rw [List.filterMap_cons, List.filterMap_cons, h x List.mem_cons_self, fm_congr fun y hy => h y (List.mem_cons_of_mem _ hy)]
theorem zip_find {α : Type} : ∀ {ps : List Str} {us : List α}, ps.Nodup → us.length = ps.length → ps.filterMap (fun n => ((ps.zip us).lookup n).map (n, ·)) = ps.zip us
  | [], us, _, _ => by simp
  | p :: ps, [], _, h => by cases h
  | p :: ps, u :: us, nd, h => by
    rw [List.nodup_cons] at nd
    have ih := zip_find (ps := ps) (us := us) nd.2 (by simpa using h)
    rw [List.zip_cons_cons, List.filterMap_cons]
    simp only [List.lookup, beq_self_eq_true, Option.map_some]
    congr 1
    refine (fm_congr fun n hn => ?_).trans ih
    have e : (n == p) = false := by
      simp only [beq_eq_false_iff_ne]
      intro z
      subst z
      exact nd.1 hn
    simp only [e]
theorem zip_miss {α : Type} : ∀ {ps : List Str} {us : List α}, ps.Nodup → us.length = ps.length → ∀ n ∈ ps, (((ps.zip us).lookup n).isNone) = false
  | [], us, _, _, n, hn => by cases hn
  | p :: ps, [], _, h, n, hn => by cases h
  | p :: ps, u :: us, nd, h, n, hn => by
    rw [List.nodup_cons] at nd
    rw [List.zip_cons_cons]
    simp only [List.lookup]
    rcases List.mem_cons.mp hn with rfl | hn
    · simp
    · cases e : (n == p) with
      | true => rfl
      | false => exact zip_miss nd.2 (by simpa using h) n hn
theorem bind_plain {fd : FuncData} {ps : List Str} {us : List Value} (h1 : fd.params.posonlyargs = []) (h2 : fd.params.args.map (·.arg) = ps) (h3 : fd.params.vararg = none) (h4 : fd.params.kwonlyargs = []) (h5 : fd.params.kwarg = none) (h6 : fd.defaults = .none) (nd : ps.Nodup) (hl : us.length = ps.length) :
    bindArgs fd ⟨us, []⟩ = pure (ps.zip us) := by
  have hm : (ps.filter fun n => ((ps.zip us).lookup n).isNone) = [] := by
    rw [List.filter_eq_nil_iff]
    intro n hn
    rw [zip_miss nd hl n hn]
    decide
  unfold bindArgs
  simp only [h1, h2, h3, h4, h5, h6, List.map_nil, List.nil_append, List.append_nil]
  have e1 : seqItems? Value.none = pure none := rfl
  simp [e1, hm, hl, zip_find nd hl]
def oexB (K : PySem.W.Frag) (C : Addr) : Bool := match K.lookup C with
  | some ⟨.type "type", _, .cls cd, sl⟩ => (match cd.mro, sl.toList with
    | .ref C' :: bm, [_, _, _, _, some (.builtin n), _] => C' == C && n == "ValueError.__new__" && !cd.hasDel && cd.hasDict && PySem.HandSPX.refsVE bm
    | _, _ => false)
  | _ => false
theorem oexB_ok {K : PySem.W.Frag} {C : Addr} (q : oexB K C = true) (h1 : PySem.W.findIn K (.ref C) "__setattr__" = some (some (.builtin "object.__setattr__"))) (h2 : PySem.W.subIn K (.ref C) (.type "BaseException") = some true) (h3 : PySem.W.typeIn K (.ref C) = some (.type "type")) (h4 : PySem.W.keepIn K (.ref C) = true) : OexC K C := by
  refine ⟨?_, h1, h2, h3, h4⟩
  unfold oexB at q
  split at q
  · rename_i dd cd sl ho
    split at q
    · rename_i C' bm k0 k1 k2 k3 n k5 hm hs
      simp only [Bool.and_eq_true, beq_iff_eq, Bool.not_eq_true'] at q
      obtain ⟨⟨⟨⟨rfl, rfl⟩, hdel⟩, hdct⟩, ht⟩ := q
      obtain ⟨nm, bs, mro, ns, qn, hd, sn, sub, ab, col, del⟩ := cd
      dsimp only at hm hdel hdct
      subst hm hdel hdct
      have hsl : sl = #[k0, k1, k2, k3, some (.builtin "ValueError.__new__"), k5] := by
        obtain ⟨l⟩ := sl
        simp only at hs
        rw [hs]
      subst hsl
      exact ⟨nm, qn, ns, bs, bm, sn, sub, ab, col, dd, k0, k1, k2, k3, k5, ho, ht⟩
    · cases q
  · cases q
def clsB (K : PySem.W.Frag) (x : Str) (fl : List Str) : Bool := oexB K (He.ga K x) && He.eqO (PySem.W.findIn K (.ref (He.ga K x)) "__setattr__") (some (some (.builtin "object.__setattr__"))) && decide (PySem.W.subIn K (.ref (He.ga K x)) (.type "BaseException") = some true) &&
  decide (PySem.W.typeIn K (.ref (He.ga K x)) = some (.type "type")) && PySem.W.keepIn K (.ref (He.ga K x)) && xfB K (He.ga K x) && (fl.all fun f => He.eqO (PySem.W.findIn K (.ref (He.ga K x)) f) (some none)) &&
  He.eqO (PySem.W.findIn K (.ref (He.ga K x)) "__init__") (some (some (.ref (He.ma K (He.ga K x) "__init__")))) && decide (PySem.W.typeIn K (.ref (He.ma K (He.ga K x) "__init__")) = some (.type "function"))
structure DDef where
  d : He.DefD
  ps : List Str
  N : List Str
structure LCls where
  nm : Str
  ini : Option Nat
  mts : List (Str × Nat)
  fls : List Str
structure Lw where
  defs : List (Nat × DDef × List CS)
  excs : List (Nat × Str × List Str × DDef)
  gls : List (Str × Int)
  frs : List Str
  isx : List (Nat × Str × String)
  mts : List (Nat × Str × Bool)
  xns : List Str
  fu : Nat
  lms : List Str := []
  cls : List LCls := []
def Lw.ds (L : Lw) : List (DDef × List CS) := L.defs.map (·.2)
def Lw.xs (L : Lw) : List (Str × List Str × DDef) := L.excs.map (·.2)
def Lw.df (L : Lw) (f : Nat) : Option (DDef × List CS) := L.defs.lookup f
def Lw.xf (L : Lw) (c : Nat) : Option (Str × List Str × DDef) := L.excs.lookup c
theorem nlook {β : Type} : ∀ {l : List (Nat × β)} {k : Nat} {v : β}, l.lookup k = some v → (k, v) ∈ l
  | [], _, _, h => by cases h
  | (j, u) :: r, k, v, h => by
    rw [List.lookup_cons] at h
    cases e : (k == j) with
    | true =>
      rw [e] at h
      cases h
      rw [eq_of_beq e]
      exact List.mem_cons_self
    | false =>
      rw [e] at h
      exact List.mem_cons_of_mem _ (nlook h)
theorem Lw.df_mem {L : Lw} {f : Nat} {p : DDef × List CS} (h : L.df f = some p) : p ∈ L.ds := List.mem_map.mpr ⟨(f, p), nlook h, rfl⟩
theorem Lw.xf_mem {L : Lw} {c : Nat} {p : Str × List Str × DDef} (h : L.xf c = some p) : p ∈ L.xs := List.mem_map.mpr ⟨(c, p), nlook h, rfl⟩
def dvD : He.Dv → D
  | .non => .non
  | .bl b => .bl b
  | .int i => .int i
  | .str x => .str x
  | _ => .non
def dvB : He.Dv → Bool
  | .non => true
  | .bl _ => true
  | .int _ => true
  | .str _ => true
  | _ => false
def DDef.arI (d : DDef) : ArI := ⟨d.ps, d.d.params.args.length, ((d.d.params.args.map (·.arg)).drop (d.d.params.args.length - d.d.dfl.length)).zip (d.d.dfl.map dvD) ++ d.d.kwd.map fun q => (q.1, dvD q.2)⟩
def Lw.lam (L : Lw) : List DDef := (L.ds.filter fun p => L.lms.contains p.1.d.name).map (·.1)
def DDef.lq (d : DDef) : Str := d.d.qual ++ ".<locals>." ++ "<lambda>"
def Lw.tbl (L : Lw) (K : PySem.W.Frag) : TBT := L.lam.map fun d => ((He.cT K d.d.at_).2, d.lq)
def Lw.cs (L : Lw) (K : PySem.W.Frag) : List (Addr × Addr) := L.lam.map fun d => He.cT K d.d.at_
def Lw.cn (L : Lw) (w : World) (ad : Nat → Addr) (K : PySem.W.Frag) : Cn := ⟨w, ad, L.tbl K, none⟩
def DDef.gl (d : DDef) : Option Str := match d.d.at_.2 with
  | none => some d.d.name
  | some _ => none
def Lw.cl (L : Lw) (c : Str) : Option LCls := L.cls.find? fun q => decide (q.nm = c)
def Lw.T (L : Lw) : Tb := ⟨fun f => (L.df f).bind (·.1.gl), L.gls, L.frs, fun c => (L.xf c).map (·.1), L.xns, fun f => match L.df f with
  | some p => p.1.d.kwd.isEmpty
  | none => false, L.lam.map (·.N)⟩
def Lw.pg (L : Lw) : Pg := ⟨fun f => (L.df f).map fun p => ⟨p.1.ps.length, p.1.N.length, p.2⟩, L.fu, fun c => match L.xf c with
  | some e => e.2.1
  | none => [], fun c y => L.isx.any fun p => decide (p.1 = c) && decide (p.2.1 = y), fun c x => (L.mts.find? fun p => decide (p.1 = c) && decide (p.2.1 = x)).map (·.2.2), fun f => (L.df f).map (·.1.arI), fun c m => (L.cl c).bind (·.mts.lookup m), fun c => (L.cl c).bind (·.ini), fun c f => match L.cl c with
  | some q => q.fls.contains f
  | none => false, fun c => (L.cl c).isSome⟩
def Lw.ad (L : Lw) (K : PySem.W.Frag) (c : Nat) : Addr := match L.xf c with
  | some e => He.ga K e.1
  | none => 0
def Lw.own (L : Lw) (x : Str) : Bool := L.xs.any fun e => decide (e.1 = x)
def Lw.xval (L : Lw) (K : PySem.W.Frag) (x : Str) : Value := if L.own x then .ref (He.ga K x) else (bootBuiltins x).getD .none
def insB (K : PySem.W.Frag) (x : Str) : Bool := (He.Fa.cls x).ok K && He.eqO (PySem.W.findIn K (.ref (He.ga K x)) "__class__") (some (some (.builtin "object.__class__"))) && He.eqO (PySem.W.specialIn K (.builtin "object.__class__") "__get__") (some (some (.builtin "getset_descriptor.__get__"))) &&
  decide (PySem.W.takesIn K (.builtin "object.__class__") = some true) && decide (PySem.W.mroIn K (He.ga K x) (.type "object") = some true)
theorem insB_ok {K : PySem.W.Frag} {x : Str} (h : insB K x = true) : InsK K (He.ga K x) := by
  simp only [insB, Bool.and_eq_true, decide_eq_true_eq] at h
  obtain ⟨⟨⟨⟨h1, h2⟩, h3⟩, h4⟩, h5⟩ := h
  exact ⟨He.cls_ok h1, He.eqO_ok h2, He.eqO_ok h3, h4, h5⟩
def tyNs : List String := ["NoneType", "bool", "int", "str", "tuple", "list", "dict"]
def Lw.clB (L : Lw) (K : PySem.W.Frag) (q : LCls) : Bool := (He.Fa.glo q.nm).ok K && insB K q.nm && (q.fls.all fun f => (He.Fa.noat q.nm f).ok K) && (q.mts.all fun m => (He.Fa.meth q.nm m.1).ok K) && (q.ini.isNone || (He.Fa.mkr q.nm).ok K) &&
  (tyNs.all fun t => decide (PySem.W.kitOne K (.type t) (.ref (He.ga K q.nm)) = some false)) && (L.cls.all fun r => decide (PySem.W.kitOne K (.ref (He.ga K r.nm)) (.ref (He.ga K q.nm)) = some (decide (r.nm = q.nm))))
def Lw.facts (L : Lw) (K : PySem.W.Frag) : Bool :=
  (L.cls.all fun q => L.clB K q) && (L.ds.all fun p => p.1.d.at_.2.isSome || (He.Fa.glo p.1.d.name).ok K) && (L.gls.all fun p => (He.Fa.int p.1 p.2).ok K) && (L.frs.all fun x => (He.Fa.free x).ok K) && (L.xs.all fun e => (He.Fa.glo e.1).ok K && clsB K e.1 e.2.1) &&
  (L.isx.all fun p => match L.xf p.1 with
    | some e => decide (PySem.W.subIn K (.ref (He.ga K e.1)) (.type p.2.2) = some true)
    | none => false) &&
  (L.mts.all fun p => match L.xf p.1 with
    | some e => decide (PySem.W.exmOne K (.ref (He.ga K e.1)) (L.xval K p.2.1) = some p.2.2)
    | none => false) && ((L.tbl K).all fun t => (L.tbl K).all fun u => !(t.1 == u.1) || t.2 == u.2)
def scopeB (sc : Scope) (N ps : List Str) : Bool := decide (sc.kind = .function) && !sc.isCoroutine && !sc.isGenerator && decide N.Nodup && decide (N.take ps.length = ps) && (ps.all fun x => decide (sc.names.lookup x = some .local) || decide (sc.names.lookup x = some .cell)) && sc.names.all fun y => decide (y.2 ≠ .free)
theorem scopeB_ok {sc : Scope} {N ps : List Str} (h : scopeB sc N ps = true) : FnScope N ps sc := by
  simp only [scopeB, Bool.and_eq_true, decide_eq_true_eq, Bool.not_eq_true', List.all_eq_true, Bool.or_eq_true] at h
  obtain ⟨⟨⟨⟨⟨⟨h1, h2⟩, h3⟩, h4⟩, h5⟩, h6⟩, h7⟩ := h
  exact ⟨h1, h2, h3, h4, h5, h6, h7⟩
def parB (p : Arguments) (ps : List Str) (dfl : List He.Dv) (kwd : List (Str × He.Dv)) : Bool := p.posonlyargs.isEmpty && decide (p.args.map (·.arg) ++ kwd.map (·.1) = ps) && p.vararg.isNone && decide (p.kwonlyargs.map (·.arg) = kwd.map (·.1)) && p.kwarg.isNone && decide ps.Nodup && decide (dfl.length ≤ p.args.length) && dfl.all dvB && kwd.all fun q => dvB q.2
def DDef.chk (d : DDef) : Bool := parB d.d.params d.ps d.d.dfl d.d.kwd && scopeB d.d.scope d.N d.ps
def Lw.clC (L : Lw) (q : LCls) : Bool := (q.mts.all fun m => match L.df m.2 with
    | some p => decide (p.1.d.at_ = (q.nm, some m.1))
    | none => false) && match q.ini with
    | some i => (match L.df i with
      | some p => decide (p.1.d.at_ = (q.nm, some ("__init__" : Str)))
      | none => false)
    | none => true
def Lw.chk (L : Lw) : Bool :=
  (L.cls.all fun q => L.clC q) && (L.ds.all fun p => !(L.T.lm.contains p.1.N) || L.lms.contains p.1.d.name) &&
  (L.ds.all fun p => (p.1.d.at_.2.isSome || decide (p.1.d.at_ = (p.1.d.name, none))) && p.1.chk && chkBk L.T false p.1.N p.1.d.scope p.2 p.1.d.body) &&
  (L.xs.all fun e => decide (e.2.2.d.at_ = (e.1, some ("__init__" : Str))) && (e.2.2.chk && e.2.2.d.kwd.isEmpty) && decide (e.2.2.ps.length = e.2.1.length + 1) && chkIni e.2.2.N e.2.2.d.scope (flIx e.2.1 1) e.2.2.d.body && decide e.2.1.Nodup && !e.2.1.isEmpty && decide (e.2.1.length ≤ 800) && !(e.1 == ("__debug__" : Str))) &&
  (L.isx.all fun p => decide (p.2.1 = (p.2.2 : Str)) && decide (bootBuiltins p.2.1 = some (.type p.2.2)) && decide (p.2.1 ≠ ("__name__" : Str)) && !(p.2.1 == ("__debug__" : Str))) &&
  (L.xns.all fun x => !(x == ("__debug__" : Str)) && (L.own x || (L.frs.contains x && (bootBuiltins x).isSome && decide (x ≠ ("__name__" : Str))))) && decide (L.fu ≤ sizeLine)
theorem dv_ok {K : PySem.W.Frag} {d : He.Dv} (h : dvB d = true) : DfV K (dvD d) (d.v K) := by
  cases d <;> first | exact fun _ _ => rfl | cases h
theorem dvs_ok {K : PySem.W.Frag} : ∀ {ds : List He.Dv}, ds.all dvB = true → Paired (DfV K) (ds.map dvD) (ds.map (He.Dv.v K))
  | [], _ => .nil
  | d :: ds, h => by
    rw [List.all_cons, Bool.and_eq_true] at h
    exact .cons (dv_ok h.1) (dvs_ok h.2)
theorem kvs_ok {K : PySem.W.Frag} : ∀ {ds : List (Str × He.Dv)}, (ds.all fun q => dvB q.2) = true → KvR (DfV K) (ds.map fun q => (q.1, dvD q.2)) (ds.map fun q => (q.1, q.2.v K))
  | [], _ => .nil
  | d :: ds, h => by
    rw [List.all_cons, Bool.and_eq_true] at h
    exact .cons ⟨rfl, dv_ok h.1⟩ (kvs_ok h.2)
theorem ka_ok {K : PySem.W.Frag} {d : DDef} {f : Addr} {fd : FuncData} (h : d.chk = true) (F : FunD K d.d.name d.d.qual d.d.params d.d.body d.d.scope (d.d.dvs K) (d.d.kws K) f fd) : KaOk K fd d.ps d.arI := by
  simp only [DDef.chk, parB, Bool.and_eq_true, decide_eq_true_eq, List.isEmpty_iff, Option.isNone_iff_eq_none] at h
  obtain ⟨⟨⟨⟨⟨⟨⟨⟨⟨k1, k2⟩, k3⟩, k4⟩, k5⟩, k6⟩, k7⟩, k8⟩, k9⟩, h4⟩ := h
  obtain ⟨oc, od, dV, kV, doc, pm, an, cdv, ct, osl, rfl, lk, hcd, hD, hK⟩ := F.ex
  have e1 : (d.d.kwd.map fun q => (q.1, dvD q.2)).map (·.1) = d.d.kwd.map (·.1) := by
    rw [List.map_map]
    rfl
  have q := ka_of (K := K) (fd := PySem.W.fnOf d.d.name d.d.qual d.d.params d.d.body d.d.scope dV kV doc pm an cdv ct) (ps := d.d.params.args.map (·.arg)) (dflD := d.d.dfl.map dvD) (kwD := d.d.kwd.map fun q => (q.1, dvD q.2)) k1 rfl k3 (k4.trans e1.symm) k5 hD hK (dvs_ok k8) (kvs_ok k9) (by rw [List.length_map, List.length_map]; exact k7) (by rw [e1, k2]; exact k6)
  rw [e1, k2, List.length_map, List.length_map] at q
  exact q
theorem arrV_self {α : Type} {pn : List Str} {more : List (Str × α)} : ∀ {ns : List Str} {us : List α} {kv : List (Str × α)}, ns.Nodup → us.length = ns.length → (∀ n ∈ ns, kv.lookup n = (ns.zip us ++ more).lookup n) → arrV pn kv ns = some us
  | [], [], _, _, _, _ => rfl
  | [], _ :: _, _, _, h, _ => by cases h
  | n :: ns, [], _, _, h, _ => by cases h
  | n :: ns, u :: us, kv, nd, hl, hk => by
    rw [List.nodup_cons] at nd
    have h0 := hk n List.mem_cons_self
    rw [List.zip_cons_cons, List.cons_append, List.lookup_cons, beq_self_eq_true] at h0
    rw [arrV, h0, arrV_self (more := more) nd.2 (by simpa using hl) fun m hm => ?_]
    have hm' := hk m (List.mem_cons_of_mem _ hm)
    rw [List.zip_cons_cons, List.cons_append, List.lookup_cons] at hm'
    have : (m == n) = false := by
      rw [beq_eq_false_iff_ne]
      intro z
      subst z
      exact nd.1 hm
    rw [this] at hm'
    exact hm'
theorem plain_binds {K : PySem.W.Frag} {d : DDef} {f : Addr} {fd : FuncData} (h : d.chk = true) (hp : d.d.kwd.isEmpty = true) (F : FunD K d.d.name d.d.qual d.d.params d.d.body d.d.scope (d.d.dvs K) (d.d.kws K) f fd) : Binds K fd d.ps [] := by
  obtain ⟨e1, dU, hd, hb⟩ := ka_ok h F
  simp only [DDef.chk, parB, Bool.and_eq_true, decide_eq_true_eq, List.isEmpty_iff, Option.isNone_iff_eq_none] at h hp
  obtain ⟨⟨⟨⟨⟨⟨⟨⟨⟨k1, k2⟩, k3⟩, k4⟩, k5⟩, k6⟩, k7⟩, k8⟩, k9⟩, h4⟩ := h
  rw [hp, List.map_nil, List.append_nil] at k2
  intro s us X hl
  rw [List.append_nil] at hl ⊢
  have q := hb s us [] us [] X (by
    simp only [arrB, DDef.arI]
    have : us.length ≤ d.d.params.args.length := by rw [hl, ← k2, List.length_map]; exact Nat.le_refl _
    simp [this]) rfl (arrV_self (more := dU) (by rw [e1]; exact k6) (by rw [e1]; exact hl) fun n _ => by simp)
  exact q
theorem plain_binds0 {K : PySem.W.Frag} {d : DDef} {f : Addr} {fd : FuncData} (h : d.chk = true) (h1 : d.d.dfl = []) (h2 : d.d.kwd = []) (F : FunD K d.d.name d.d.qual d.d.params d.d.body d.d.scope (d.d.dvs K) (d.d.kws K) f fd) : ∀ (s : Shared) (us : List Value), us.length = d.ps.length → BindsTo s fd ⟨us, []⟩ (d.ps.zip us) := by
  simp only [DDef.chk, parB, Bool.and_eq_true, decide_eq_true_eq, List.isEmpty_iff, Option.isNone_iff_eq_none] at h
  obtain ⟨⟨⟨⟨⟨⟨⟨⟨⟨k1, k2⟩, k3⟩, k4⟩, k5⟩, k6⟩, k7⟩, k8⟩, k9⟩, h4⟩ := h
  rw [h2, List.map_nil, List.append_nil] at k2
  rw [h2, List.map_nil] at k4
  have k4' : d.d.params.kwonlyargs = [] := List.map_eq_nil_iff.mp k4
  obtain ⟨oc, od, dV, kV, doc, pm, an, cdv, ct, osl, rfl, lk, hcd, hD, hK⟩ := F.ex
  intro s us hl
  rcases hD with ⟨_, rfl⟩ | ⟨e, _⟩
  · exact .of_eq (bind_plain k1 k2 k3 k4' k5 rfl k6 hl)
  · exact absurd (show d.d.dvs K = [] by unfold He.DefD.dvs; rw [h1]; rfl) e
theorem Lw.dfOk {w : World} {L : Lw} {K : PySem.W.Frag} {f : Nat} {p : DDef × List CS} {fd : FuncData} (hd : L.df f = some p) (e2 : p.1.chk = true) (e3 : chkBk L.T false p.1.N p.1.d.scope p.2 p.1.d.body = true) (hlm : L.T.lm.contains p.1.N = true → L.lms.contains p.1.d.name = true) (huq : ∀ t, t ∈ L.tbl K → ∀ u, u ∈ L.tbl K → t.1 = u.1 → t.2 = u.2)
    (F : FunD K p.1.d.name p.1.d.qual p.1.d.params p.1.d.body p.1.d.scope (p.1.d.dvs K) (p.1.d.kws K) (He.fAd K p.1.d.at_) fd) : DfOk L.T L.pg (L.cn w (L.ad K) K) (L.cs K) K f (He.fAd K p.1.d.at_) fd p.1.ps := by
  have F0 := F
  obtain ⟨oc, od, dV, kV, doc, pm, an, cdv, ct, osl, rfl, lk, hcd, hD, hK⟩ := F.ex
  have e4 : scopeB p.1.d.scope p.1.N p.1.ps = true := by
    simp only [DDef.chk, Bool.and_eq_true] at e2
    exact e2.2
  have htb : L.pg.tb f = some ⟨p.1.ps.length, p.1.N.length, p.2⟩ := by
    show (L.df f).map _ = _
    rw [hd]
    rfl
  refine ⟨F0.kp, fun hpl => ?_, fun a ha => ?_, fun d hd' => ?_, oc, od, osl, _, _, _, _, _, dV, kV, doc, pm, cdv, ct, an, p.1.N, rfl, lk, hcd, scopeB_ok e4, fun z => ?_, fun d hd' => ?_⟩
  · have hpl' : (match L.df f with | some p => p.1.d.kwd.isEmpty | none => false) = true := hpl
    rw [hd] at hpl'
    exact plain_binds e2 hpl' F0
  · have ha' : (L.df f).map (·.1.arI) = some a := ha
    rw [hd] at ha'
    cases ha'
    exact ka_ok e2 F0
  · rw [htb] at hd'
    cases hd'
    rfl
  · have hmem : p.1 ∈ L.lam := List.mem_map.mpr ⟨p, List.mem_filter.mpr ⟨Lw.df_mem hd, hlm z⟩, rfl⟩
    obtain ⟨c, hcc⟩ := He.codeIn_ref hcd
    have hco : He.codeOf K p.1.d.at_ = c := He.codeOf_eq lk hcc
    have hc1 : (He.cT K p.1.d.at_).1 = c := hco
    refine ⟨c, (He.cT K p.1.d.at_).2, hcc, List.mem_map.mpr ⟨p.1, hmem, ?_⟩, List.mem_map.mpr ⟨p.1, hmem, rfl⟩, fun t ht e => huq t ht _ (List.mem_map.mpr ⟨p.1, hmem, rfl⟩) e⟩
    rw [← hc1]
  · rw [htb] at hd'
    cases hd'
    exact ⟨rfl, e3⟩
theorem Lw.uniq {L : Lw} {K : PySem.W.Frag} (hq : L.facts K = true) : ∀ t, t ∈ L.tbl K → ∀ u, u ∈ L.tbl K → t.1 = u.1 → t.2 = u.2 := fun t ht u hu e => by
  simp only [Lw.facts, Bool.and_eq_true, List.all_eq_true] at hq
  have z := hq.2 t ht u hu
  rw [Bool.or_eq_true, Bool.not_eq_true', beq_eq_false_iff_ne, beq_iff_eq] at z
  rcases z with z | z
  · exact absurd e z
  · exact z
theorem Lw.lmOk {L : Lw} (hc : L.chk = true) : ∀ p, p ∈ L.ds → L.T.lm.contains p.1.N = true → L.lms.contains p.1.d.name = true := fun p hp z => by
  simp only [Lw.chk, Bool.and_eq_true, List.all_eq_true] at hc
  have y := hc.1.1.1.1.1.2 p hp
  rw [z] at y
  simpa using y
theorem Lw.dfs {w : World} {L : Lw} (hc : L.chk = true) (hty : ∀ p ∈ L.isx, typeOf (.type p.2.2) = pure (.type "type")) {K : PySem.W.Frag} {h : Heap} {mg : Str → Option Value} (X : K.In h) (G : h.Ns mainGlobals mg) (hq : L.facts K = true)
    (hF : ∀ p ∈ L.ds, ∃ fd, FunD K p.1.d.name p.1.d.qual p.1.d.params p.1.d.body p.1.d.scope (p.1.d.dvs K) (p.1.d.kws K) (He.fAd K p.1.d.at_) fd)
    (hE : ∀ e ∈ L.xs, ∃ fd, FunD K e.2.2.d.name e.2.2.d.qual e.2.2.d.params e.2.2.d.body e.2.2.d.scope (e.2.2.d.dvs K) (e.2.2.d.kws K) (He.fAd K e.2.2.d.at_) fd) : Dfs L.T L.pg (L.cn w (L.ad K) K) (L.cs K) K mg := by
  simp only [Lw.chk, Bool.and_eq_true, decide_eq_true_eq, List.all_eq_true, Bool.not_eq_true'] at hc
  obtain ⟨⟨⟨⟨⟨⟨cK, c0⟩, c1⟩, c2⟩, c3⟩, c4⟩, c5⟩ := hc
  simp only [Lw.facts, Bool.and_eq_true, List.all_eq_true] at hq
  obtain ⟨⟨⟨⟨⟨⟨⟨qK, q1⟩, q2⟩, q3⟩, q4⟩, q5⟩, q6⟩, q7⟩ := hq
  have huq : ∀ t, t ∈ L.tbl K → ∀ u, u ∈ L.tbl K → t.1 = u.1 → t.2 = u.2 := fun t ht u hu e => by
    have z := q7 t ht u hu
    rw [Bool.or_eq_true, Bool.not_eq_true', beq_eq_false_iff_ne, beq_iff_eq] at z
    rcases z with z | z
    · exact absurd e z
    · exact z
  have hlm : ∀ p, p ∈ L.ds → L.T.lm.contains p.1.N = true → L.lms.contains p.1.d.name = true := fun p hp z => by
    have y := c0 p hp
    rw [z] at y
    simpa using y
  have dfo : ∀ (f : Nat) (p : DDef × List CS), L.df f = some p → ∃ fd, DfOk L.T L.pg (L.cn w (L.ad K) K) (L.cs K) K f (He.fAd K p.1.d.at_) fd p.1.ps := fun f p hd => by
    have hp := Lw.df_mem hd
    obtain ⟨⟨_, e2⟩, e3⟩ := c1 p hp
    obtain ⟨fd, F⟩ := hF p hp
    exact ⟨fd, Lw.dfOk hd e2 e3 (hlm p hp) huq F⟩
  have own : ∀ {c : Str} {q : LCls}, L.cl c = some q → q ∈ L.cls ∧ q.nm = c := fun {c q} h => ⟨List.mem_of_find?_eq_some h, by simpa using List.find?_some h⟩
  have cls : ∀ e ∈ L.xs, OexC K (He.ga K e.1) ∧ XfC K (He.ga K e.1) ∧ (∀ f ∈ e.2.1, PySem.W.findIn K (.ref (He.ga K e.1)) f = some none) ∧ PySem.W.findIn K (.ref (He.ga K e.1)) "__init__" = some (some (.ref (He.ma K (He.ga K e.1) "__init__"))) ∧ PySem.W.typeIn K (.ref (He.ma K (He.ga K e.1) "__init__")) = some (.type "function") := fun e he => by
    have := (q4 e he).2
    simp only [clsB, Bool.and_eq_true, decide_eq_true_eq, List.all_eq_true] at this
    obtain ⟨⟨⟨⟨⟨⟨⟨⟨a1, a2⟩, a3⟩, a4⟩, a5⟩, a6⟩, a7⟩, a8⟩, a9⟩ := this
    exact ⟨oexB_ok a1 (He.eqO_ok a2) a3 a4 a5, xfB_ok a6, fun f hf => He.eqO_ok (a7 f hf), He.eqO_ok a8, a9⟩
  refine ⟨rfl, c5, fun x i hx => ?_, fun x hx => He.free_ok X G (q3 x hx), fun f x hx => ?_, fun c x hx => ?_, fun x hx => ?_, fun c x b hm => ?_, fun c m f hm => ?_, fun c f hi => ?_, fun c f hf => ?_, fun c hc => ?_⟩
  · exact He.int_ok X G (q2 (x, i) (PySem.mem_of_lookup hx))
  · have hx' : (L.df f).bind (·.1.gl) = some x := hx
    cases hd : L.df f with
    | none => rw [hd] at hx'; cases hx'
    | some p =>
      rw [hd] at hx'
      have hp := Lw.df_mem hd
      have hgl : p.1.gl = some x := hx'
      unfold DDef.gl at hgl
      split at hgl
      · rename_i hat
        cases hgl
        have e0 := (c1 p hp).1.1
        have q0 := q1 p hp
        rw [hat] at e0 q0
        have e1 : p.1.d.at_ = (p.1.d.name, none) := by simpa using e0
        have hfa : He.fAd K p.1.d.at_ = He.ga K p.1.d.name := by rw [e1]; rfl
        obtain ⟨fd, F⟩ := dfo f p hd
        exact ⟨_, fd, p.1.ps, by rw [hfa]; exact He.glo_ok X G (by simpa using q0), F⟩
      · cases hgl
  · have hx' : (L.xf c).map (·.1) = some x := hx
    cases hd : L.xf c with
    | none => rw [hd] at hx'; cases hx'
    | some e =>
      rw [hd] at hx'
      cases hx'
      have he := Lw.xf_mem hd
      obtain ⟨⟨⟨⟨⟨⟨⟨e1, e2, e2k⟩, e3⟩, e4⟩, e5⟩, e6⟩, e7⟩, e8⟩ := c2 e he
      obtain ⟨a1, a2, a3, a4, a5⟩ := cls e he
      have had : L.ad K c = He.ga K e.1 := by unfold Lw.ad; rw [hd]
      have hfl : L.pg.flds c = e.2.1 := by
        show (match L.xf c with | some e => e.2.1 | none => []) = _
        rw [hd]
      obtain ⟨fd, F⟩ := hE e he
      have F0 := F
      obtain ⟨oc, od, dV, kV, doc, pm, an, cdv, ct, osl, rfl, lk, hcd, hD, hK⟩ := F.ex
      have e9 : scopeB e.2.2.d.scope e.2.2.N e.2.2.ps = true := by
        simp only [DDef.chk, Bool.and_eq_true] at e2
        exact e2.2
      have hfa : He.fAd K e.2.2.d.at_ = He.ma K (He.ga K e.1) "__init__" := by rw [e1]; rfl
      rw [hfa] at lk F0
      show mg e.1 = some (.ref (L.ad K c)) ∧ _ ∧ IniC K (L.ad K c) (L.pg.flds c)
      rw [had, hfl]
      refine ⟨He.glo_ok X G (q4 e he).1, e8, a1, e5, ⟨fun z => ?_, e7⟩, a3, He.ma K (He.ga K e.1) "__init__", _, _, _, _, _, dV, kV, doc, pm, cdv, ct, oc, an, od, osl, e.2.2.N, e.2.2.ps, a4, a5, lk, hcd, scopeB_ok e9, e3, fun s us _ hl => ?_, e4⟩
      · rw [z] at e6
        cases e6
      · exact plain_binds e2 e2k F0 s us ‹_› hl
  · obtain ⟨e1, e2⟩ := c4 x hx
    refine ⟨L.xval K x, ⟨e1, ?_⟩, fun c b hm => ?_⟩
    · unfold Lw.xval
      by_cases ho : L.own x = true
      · rw [if_pos ho]
        obtain ⟨e, he, hn⟩ := List.any_eq_true.mp ho
        have hn' := of_decide_eq_true hn
        subst hn'
        exact .inl (He.glo_ok X G (q4 e he).1)
      · rw [if_neg ho]
        rcases Bool.or_eq_true_iff.mp e2 with z | z
        · exact absurd z ho
        · simp only [Bool.and_eq_true, decide_eq_true_eq] at z
          obtain ⟨⟨z1, z2⟩, z3⟩ := z
          refine .inr ⟨He.free_ok X G (q3 x (by simpa using z1)), ?_, z3⟩
          obtain ⟨v, hv⟩ := Option.isSome_iff_exists.mp z2
          rw [hv]
          rfl
    · have hm' : (L.mts.find? fun p => decide (p.1 = c) && decide (p.2.1 = x)).map (·.2.2) = some b := hm
      cases hf : L.mts.find? fun p => decide (p.1 = c) && decide (p.2.1 = x) with
      | none => rw [hf] at hm'; cases hm'
      | some p =>
        rw [hf] at hm'
        cases hm'
        have h1 := List.find?_some hf
        simp only [Bool.and_eq_true, decide_eq_true_eq] at h1
        obtain ⟨rfl, rfl⟩ := h1
        have h2 := q6 p (List.mem_of_find?_eq_some hf)
        show PySem.W.exmOne K (.ref (L.ad K p.1)) _ = _
        unfold Lw.ad
        split at h2
        · rename_i e he
          exact of_decide_eq_true h2
        · cases h2
  · have hm' : (L.mts.find? fun p => decide (p.1 = c) && decide (p.2.1 = x)).map (·.2.2) = some b := hm
    cases hf : L.mts.find? fun p => decide (p.1 = c) && decide (p.2.1 = x) with
    | none => rw [hf] at hm'; cases hm'
    | some p =>
      have h1 := List.find?_some hf
      simp only [Bool.and_eq_true, decide_eq_true_eq] at h1
      obtain ⟨rfl, rfl⟩ := h1
      have h2 := q6 p (List.mem_of_find?_eq_some hf)
      split at h2
      · rename_i e he
        obtain ⟨a1, a2, a3, a4, a5⟩ := cls e (Lw.xf_mem he)
        have had : L.ad K p.1 = He.ga K e.1 := by unfold Lw.ad; rw [he]
        show XcC K (L.pg.ev 0) p.1 (L.ad K p.1)
        rw [had]
        refine ⟨a2, fun f hf => a3 f ?_, fun y hy => ?_⟩
        · have hf' : f ∈ (match L.xf p.1 with | some e => e.2.1 | none => []) := hf
          rw [he] at hf'
          exact hf'
        · have hy' : (L.isx.any fun q => decide (q.1 = p.1) && decide (q.2.1 = y)) = true := hy
          obtain ⟨q, hq, hqq⟩ := List.any_eq_true.mp hy'
          simp only [Bool.and_eq_true, decide_eq_true_eq] at hqq
          obtain ⟨z1, rfl⟩ := hqq
          obtain ⟨⟨⟨b1, b2⟩, b3⟩, b4⟩ := c3 q hq
          have h5 := q5 q hq
          rw [z1, he] at h5
          exact ⟨q.2.2, b1, b2, hty q hq, of_decide_eq_true h5, b3, b4⟩
      · cases h2
  · have hm' : (L.cl c).bind (·.mts.lookup m) = some f := hm
    cases hcl : L.cl c with
    | none => rw [hcl] at hm'; cases hm'
    | some q =>
      rw [hcl] at hm'
      obtain ⟨hq, rfl⟩ := own hcl
      have hmm : (m, f) ∈ q.mts := PySem.mem_of_lookup hm'
      have k := qK q hq
      simp only [Lw.clB, Bool.and_eq_true, List.all_eq_true] at k
      have k2 := cK q hq
      simp only [Lw.clC, Bool.and_eq_true, List.all_eq_true] at k2
      have k3 := k2.1 (m, f) hmm
      dsimp only at k3
      split at k3
      · rename_i p hd
        obtain ⟨fd, F⟩ := dfo f p hd
        have e : He.fAd K p.1.d.at_ = He.ma K (He.ga K q.nm) m := by rw [of_decide_eq_true k3]; rfl
        exact ⟨(insB_ok k.1.1.1.1.1.2).cl, _, fd, p.1.ps, by rw [e]; exact He.meth_ok (k.1.1.1.2 (m, f) hmm), F⟩
      · cases k3
  · have hi' : (L.cl c).bind (·.ini) = some f := hi
    cases hcl : L.cl c with
    | none => rw [hcl] at hi'; cases hi'
    | some q =>
      rw [hcl] at hi'
      have hi2 : q.ini = some f := hi'
      obtain ⟨hq, rfl⟩ := own hcl
      have k := qK q hq
      simp only [Lw.clB, Bool.and_eq_true] at k
      have k2 := cK q hq
      simp only [Lw.clC, Bool.and_eq_true, hi2] at k2
      have k3 := k2.2
      split at k3
      · rename_i p hd
        obtain ⟨fd, F⟩ := dfo f p hd
        have e : He.fAd K p.1.d.at_ = He.ma K (He.ga K q.nm) "__init__" := by rw [of_decide_eq_true k3]; rfl
        have k4 := k.1.1.2
        rw [hi2] at k4
        exact ⟨He.glo_ok X G k.1.1.1.1.1.1, _, fd, p.1.ps, by rw [e]; exact He.mkr_ok (by simpa using k4), F⟩
      · cases k3
  · have hf' : (match L.cl c with | some q => q.fls.contains f | none => false) = true := hf
    cases hcl : L.cl c with
    | none => rw [hcl] at hf'; cases hf'
    | some q =>
      rw [hcl] at hf'
      obtain ⟨hq, rfl⟩ := own hcl
      have k := qK q hq
      simp only [Lw.clB, Bool.and_eq_true, List.all_eq_true] at k
      exact ⟨(insB_ok k.1.1.1.1.1.2).cl, He.noat_ok (k.1.1.1.1.2 f (by simpa using hf'))⟩
  · have hc' : (L.cl c).isSome = true := hc
    obtain ⟨q, hcl⟩ := Option.isSome_iff_exists.mp hc'
    obtain ⟨hq, rfl⟩ := own hcl
    have k := qK q hq
    simp only [Lw.clB, Bool.and_eq_true, List.all_eq_true, decide_eq_true_eq] at k
    refine ⟨He.glo_ok X G k.1.1.1.1.1.1, insB_ok k.1.1.1.1.1.2, k.1.2, fun c' hc2 => ?_⟩
    have hc2' : (L.cl c').isSome = true := hc2
    obtain ⟨q', hcl'⟩ := Option.isSome_iff_exists.mp hc2'
    obtain ⟨hq', rfl⟩ := own hcl'
    exact k.2 q' hq'
def Lw.fn (L : Lw) : List He.DefD := L.ds.map (·.1.d) ++ L.xs.map (·.2.2.d)
def Lw.obs (L : Lw) (K : PySem.W.Frag) : He.AlD := (L.facts K && L.fn.all fun d => d.ok K, L.fn.map fun d => He.fnW K d.at_)
def Lw.val (L : Lw) : He.AlD := (true, L.fn.map He.DefD.val)
def Lw.obsG (L : Lw) (n : Nat) (g : Addr → Option Obj) : He.AlD := ((L.obs (He.frT g (He.asD g n))).1 && He.tabsB g (L.lam.map (·.d.at_)) (He.frT g (He.asD g n)), (L.obs (He.frT g (He.asD g n))).2)
structure Lw.Says (L : Lw) (h : Heap) (K : PySem.W.Frag) : Prop where
  c : L.obs K = L.val
  hd : ∀ p, p ∈ L.cs K → PySem.W.codeHdIn K p.1 p.2 = true
  out : ∀ p, p ∈ L.cs K → K.lookup p.2 = none
  empty : ∀ p, p ∈ L.cs K → h.get? p.2 = some { cls := .none, data := .fields #[] }
theorem Lw.says_of {L : Lw} {n : Nat} {h : Heap} (e : L.obsG n h.get? = L.val) : L.Says h (He.frT h.get? (He.asD h.get? n)) := by
  have e1 := He.ba (show ((L.obs (He.frT h.get? (He.asD h.get? n))).1 && He.tabsB h.get? (L.lam.map (·.d.at_)) (He.frT h.get? (He.asD h.get? n))) = true from congrArg (fun z : He.AlD => z.1) e)
  have e2 : (L.obs (He.frT h.get? (He.asD h.get? n))).2 = L.val.2 := (show (L.obsG n h.get?).2 = L.val.2 by rw [e])
  have key : ∀ p, p ∈ L.cs (He.frT h.get? (He.asD h.get? n)) → PySem.W.codeHdIn (He.frT h.get? (He.asD h.get? n)) p.1 p.2 = true ∧ ∃ o, h.get? p.2 = some o ∧ He.emptyTab o = true := fun p hp => by
    obtain ⟨d, hd, rfl⟩ := List.mem_map.mp hp
    obtain ⟨h3, h4⟩ := He.ba (List.all_eq_true.mp e1.2 d.d.at_ (List.mem_map.mpr ⟨d, hd, rfl⟩))
    refine ⟨h3, ?_⟩
    split at h4
    · exact ⟨_, by assumption, h4⟩
    · cases h4
  refine ⟨Prod.ext e1.1 e2, fun p hp => (key p hp).1, fun p hp => ?_, fun p hp => ?_⟩
  · obtain ⟨_, o, q, z⟩ := key p hp
    exact He.frT_none q z
  · obtain ⟨_, o, q, z⟩ := key p hp
    rw [q, He.emptyTab_eq z]
def Lw.hook (L : Lw) (n : Nat) : PySem.W.Hook where
  α := He.AlD
  obs := fun s => L.obsG n s.heap.get?
  val := fun _ => L.val
  says := fun _ h => ∃ K : PySem.W.Frag, K.In h ∧ L.Says h K
  of := fun _ _ e => ⟨_, He.frT_in, L.says_of e⟩
  keeps := fun _ _ _ ⟨K, hK, c⟩ k => ⟨K, PySem.W.Frag.In.keeps hK k, ⟨c.c, c.hd, c.out, fun p hp => k _ _ (c.empty p hp)⟩⟩
def Lw.ob (L : Lw) (n : Nat) (s : PySem.W.SharedT) : He.AlD := L.obsG n (HandSHeadRun.getT s)
theorem Lw.ob_eq (L : Lw) (n : Nat) (s : PySem.W.SharedT) : L.ob n s = (L.hook n).obs s.abs := by
  have e : HandSHeadRun.getT s = s.abs.heap.get? := funext (HandSHeadRun.getT_eq s)
  show L.obsG n _ = L.obsG n _
  rw [e]
theorem Lw.funs {L : Lw} {K : PySem.W.Frag} (c : L.obs K = L.val) : L.facts K = true ∧ ∀ d ∈ L.fn, ∃ fd, FunD K d.name d.qual d.params d.body d.scope (d.dvs K) (d.kws K) (He.fAd K d.at_) fd := by
  have c1 := He.ba (show (L.facts K && L.fn.all fun d => d.ok K) = true from congrArg (fun z : He.AlD => z.1) c)
  have e : L.fn.map (fun d => He.fnW K d.at_) = L.fn.map He.DefD.val := congrArg (fun z : He.AlD => z.2) c
  refine ⟨c1.1, fun d hd => ?_⟩
  have e2 : He.fnW K d.at_ = d.val := List.map_inj_left.mp e d hd
  exact He.DefD.funD e2 (List.all_eq_true.mp c1.2 d hd)
theorem Lw.walk {L : Lw} {l : PySem.W.OpenLaw} {n m f k : Nat} {q : Program} {loose : List Str} {XP : (Str → Option Value) → Heap → Prop} {d : DefRec} {p : DDef × List CS} {x : Str} (hc : L.chk = true) (hty : ∀ p ∈ L.isx, typeOf (.type p.2.2) = pure (.type "type"))
    (hn : l.most = some n) (hn2 : n ≤ sizeLine) (hdf : d.params.defaults = []) (hr : Room (9 * k + 2) callerA) (hf : L.df f = some p) (hp : p.1.ps = [x]) (hp1 : p.1.d.dfl = []) (hp2 : p.1.d.kwd = []) (hpa : p.1.d.at_.2 = none) (hd : d.name = p.1.d.name)
    (ev : ∀ ns : List Int, ns.length ≤ n → (∀ k ∈ ns, Builtin.Int.intBits k ≤ 1048576) → ∃ s, callF L.pg k f [.ref 0] (HS.start [.lst false (ns.map D.int)]) = some (.ok (.bl true) s)) :
    PySem.W.WalkO q loose XP (L.hook m).says l.row.toRowW d [] (fun f vs => PySem.call f vs) := by
  refine Att.attach_callB hn hdf fun w s₀ s₁ mg mb fa o pm cd doc a vs ns G Y ho hdd hcd hmg hobj hints hlen hbits hg => ?_
  obtain ⟨K, KX, c⟩ := Y
  obtain ⟨hq, hfun⟩ := Lw.funs c.c
  have hm := Lw.df_mem hf
  have S : Dfs L.T L.pg (L.cn w (L.ad K) K) (L.cs K) K mg := Lw.dfs hc hty KX G.T.g hq (fun p hp => hfun _ (List.mem_append_left _ (List.mem_map.mpr ⟨p, hp, rfl⟩))) (fun e he => hfun _ (List.mem_append_right _ (List.mem_map.mpr ⟨e, he, rfl⟩)))
  have hck : p.1.chk = true ∧ p.1.d.at_ = (p.1.d.name, none) ∧ chkBk L.T false p.1.N p.1.d.scope p.2 p.1.d.body = true := by
    have hc' := hc
    simp only [Lw.chk, Bool.and_eq_true, decide_eq_true_eq, List.all_eq_true] at hc'
    have e0 := (hc'.1.1.1.1.2 p hm).1.1
    rw [hpa] at e0
    exact ⟨(hc'.1.1.1.1.2 p hm).1.2, by simpa using e0, (hc'.1.1.1.1.2 p hm).2⟩
  obtain ⟨fd0, F0⟩ := hfun p.1.d (List.mem_append_left _ (List.mem_map.mpr ⟨p, hm, rfl⟩))
  have glo0 : (He.Fa.glo p.1.d.name).ok K = true := by
    have hq' := hq
    simp only [Lw.facts, Bool.and_eq_true, List.all_eq_true] at hq'
    have q0 := hq'.1.1.1.1.1.1.2 p hm
    rw [hpa] at q0
    simpa using q0
  have glo : mg p.1.d.name = some (.ref (He.ga K p.1.d.name)) := He.glo_ok KX G.T.g glo0
  have efa : fa = He.ga K p.1.d.name := by
    rw [hd, glo] at hmg
    cases hmg
    rfl
  have hat : He.fAd K p.1.d.at_ = fa := by
    rw [hck.2.1, efa]
    rfl
  rw [hat] at F0
  have hbind := plain_binds0 hck.1 hp1 hp2 F0
  refine law_gT (K := K) (x := x) (cs := L.cs K) (fd := fd0) (sp := spOf K (L.cn w (L.ad K) K) (fun {_} => callF L.pg k) f) KX G.T.g G.T.b G.T.builtins G.T.nolimit hg c.empty c.out (fun p hp => PySem.W.codeHd_of_K KX (c.hd p hp)) G.T.bmain hobj hints (Nat.le_trans hlen hn2) hr (fun base hb hgb hB => ?_) (fun s u => ?_) fun H hH hS => ?_
  · have hu := Lw.uniq hq
    have hlm := Lw.lmOk hc
    have F1 := F0
    rw [← hat] at F1
    have n := Lw.dfOk (w := w) hf hck.1 hck.2.2 (hlm p hm) hu F1
    have q := all_g S (P := l.prog) (w := w) (base := base) rfl hB k f _ _ _ n
    rw [hp, hat] at q
    exact q
  · have := hbind s [u] (by rw [hp]; rfl)
    rw [hp] at this
    exact this
  · obtain ⟨s, e⟩ := ev ns hlen hbits
    refine ⟨_, HS.start [.lst false (ns.map D.int)], [(a, false)], [.ref 0], _, ⟨rfl, fun i j b q1 => ?_, fun i o b w' e1 e2 => ?_⟩, fun t ht => ?_, ⟨.ref a, [], rfl, ⟨a, false, rfl, rfl⟩, rfl⟩, e, fun r' H' v _ _ rp => rp⟩
    · match i, q1 with
      | 0, q1 => cases q1
      | i + 1, q1 => cases q1
    · match i, e1, e2 with
      | 0, e1, e2 =>
        cases e1
        cases e2
        refine ⟨rfl, _, hS, ?_⟩
        have : ∀ l : List Int, RepL K [(a, false)] H (l.map D.int) (l.map V.int) := fun l => by
          induction l with
          | nil => rfl
          | cons y l ih => exact ⟨.int y, _, rfl, rfl, ih⟩
        exact this ns
      | i + 1, e1, e2 => cases e1
    · obtain ⟨d, hd', rfl⟩ := List.mem_map.mp ht
      refine ⟨by simp, #[], hH _ (List.mem_map.mpr ⟨d, hd', rfl⟩), True.intro, fun pos cv z => ?_⟩
      have z' : (none : Option Value) = some cv := z
      cases z'
end PV
set_option Elab.async false
set_option linter.all false
set_option maxRecDepth 100000
set_option maxHeartbeats 0
namespace K14
open PySem PySem.Spec PyProof.Rows L2 PV
def clsFn (i : Nat) (s : Stmt) : Stmt := match s with
  | .ClassDef _ _ _ b _ _ _ _ _ _ _ => b.getD i (.Pass ⟨0, 0, 0, 0⟩)
  | s => s
abbrev Pm : PySem.Program := PySem.Challenge.pw_partingfees_k14_first_violation
def top (i : Nat) : Stmt := Pm.main.body.getD i (.Pass ⟨0, 0, 0, 0⟩)
def d30 : DDef := ⟨⟨("_wall", none), "_wall", "_wall", defArgs (top 0), defBody (top 0), defScope (top 0), [], []⟩, ["k"], ["k"]⟩
def b30 : List CS := [(.while_ (.cst (.bl true)) [.pass])]
def d0 : DDef := ⟨⟨("is_integer", none), "is_integer", "is_integer", defArgs (top 10), defBody (top 10), defScope (top 10), [], []⟩, ["value"], ["value"]⟩
def b0 : List CS := [(.ret (.ands [.bi (.isi .int) [.var 0], .nt (.bi (.isi .bool) [.var 0])]))]
def d1 : DDef := ⟨⟨("in_range", none), "in_range", "in_range", defArgs (top 11), defBody (top 11), defScope (top 11), [], []⟩, ["value", "least", "most"], ["value", "least", "most"]⟩
def b1 : List CS := [(.ret (.ands [.call 0 [.var 0], .chn .le .le (.var 1) (.var 0) (.var 2)]))]
def d2 : DDef := ⟨⟨("are_counts", none), "are_counts", "are_counts", defArgs (top 12), defBody (top 12), defScope (top 12), [], []⟩, ["value"], ["value", "one"]⟩
def b2 : List CS := [(.ite (.ors [.nt (.bi (.isi .tuple) [.var 0]), .nt (.chn .le .le (.cst (.int 1)) (.bi .len [.var 0]) (.glb "MAX_KINDS" (3)))]) [(.ret (.cst (.bl false)))] []), (.ret (.bi .all [.lc (.nm 1) .val [.var 0] [] (.ands [.call 0 [.var 1], .cmp .ge (.var 1) (.cst (.int 0))]) [1]]))]
def d3 : DDef := ⟨⟨("is_any_heap", none), "is_any_heap", "is_any_heap", defArgs (top 13), defBody (top 13), defScope (top 13), [], []⟩, ["value"], ["value", "one"]⟩
def b3 : List CS := [(.ret (.ands [.call 2 [.var 0], .bi .any [.lc (.nm 1) .val [.var 0] [] (.cmp .gt (.var 1) (.cst (.int 0))) [1]]]))]
def d4 : DDef := ⟨⟨("is_heap", none), "is_heap", "is_heap", defArgs (top 14), defBody (top 14), defScope (top 14), [], []⟩, ["value", "kinds"], ["value", "kinds"]⟩
def b4 : List CS := [(.ite (.nt (.call 1 [.var 1, .cst (.int 1), .glb "MAX_KINDS" (3)])) [(.raise 1 [.var 1])] []), (.ret (.ands [.call 3 [.var 0], .cmp .eq (.bi .len [.var 0]) (.var 1)]))]
def d11 : DDef := ⟨⟨("heap_key", none), "heap_key", "heap_key", defArgs (top 15), defBody (top 15), defScope (top 15), [], []⟩, ["heap"], ["heap"]⟩
def b11 : List CS := [(.ret (.tup [.bi .sum [.var 0], .var 0]))]
def d7 : DDef := ⟨⟨("add", none), "add", "add", defArgs (top 16), defBody (top 16), defScope (top 16), [], []⟩, ["one", "other"], ["one", "other", "first", "second"]⟩
def b7 : List CS := [(.ret (.bi .tuple [.lc (.tp [2, 3]) .zipS [.var 0, .var 1] [] (.bin .add (.var 2) (.var 3)) [2, 3]]))]
def d12 : DDef := ⟨⟨("subtract", none), "subtract", "subtract", defArgs (top 17), defBody (top 17), defScope (top 17), [], []⟩, ["whole", "one"], ["whole", "one", "first", "second"]⟩
def b12 : List CS := [(.ret (.bi .tuple [.lc (.tp [2, 3]) .zipS [.var 0, .var 1] [] (.bin .sub (.var 2) (.var 3)) [2, 3]]))]
def d8 : DDef := ⟨⟨("fits_in", none), "fits_in", "fits_in", defArgs (top 18), defBody (top 18), defScope (top 18), [], []⟩, ["one", "other"], ["one", "other", "first", "second"]⟩
def b8 : List CS := [(.ret (.bi .all [.lc (.tp [2, 3]) .zipS [.var 0, .var 1] [] (.cmp .le (.var 2) (.var 3)) [2, 3]]))]
def d13 : DDef := ⟨⟨("vectors_up_to", none), "vectors_up_to", "vectors_up_to", defArgs (top 19), defBody (top 19), defScope (top 19), [], []⟩, ["limit"], ["limit", "found", "most", "row", "many"]⟩
def b13 : List CS := [(.set (.nm 1) (.lst [.tup []])), (.for_ (.nm 2) .val [.var 0] [(.set (.nm 1) (.lc2 (.nm 3) .val [.var 1] [] (.nm 4) .range [.bin .add (.var 2) (.cst (.int 1))] [] (.bin .add (.var 3) (.tup [.var 4])) [3, 4] [4]))]), (.ret (.var 1))]
def d14 : DDef := ⟨⟨("heaps_up_to", none), "heaps_up_to", "heaps_up_to", defArgs (top 20), defBody (top 20), defScope (top 20), [], []⟩, ["limit"], ["limit", "heap"]⟩
def b14 : List CS := [(.ret (.srtF 11 (.lc (.nm 1) .val [.call 13 [.var 0]] [.bi .any [.var 1]] (.var 1) [1])))]
def d15 : DDef := ⟨⟨("proper_parts", none), "proper_parts", "proper_parts", defArgs (top 21), defBody (top 21), defScope (top 21), [], []⟩, ["heap"], ["heap"]⟩
def b15 : List CS := [(.ret (.slc (.call 14 [.var 0]) none (some (.neg (.cst (.int 1))))))]
def d16 : DDef := ⟨⟨("is_box", none), "is_box", "is_box", defArgs (top 22), defBody (top 22), defScope (top 22), [], []⟩, ["value"], ["value", "many", "one"]⟩
def b16 : List CS := [(.ite (.ors [.nt (.call 2 [.var 0]), .bi .any [.lc (.nm 2) .val [.var 0] [] (.cmp .eq (.var 2) (.cst (.int 0))) [2]], .cmp .gt (.bi .sum [.var 0]) (.glb "MAX_SIZE" (24))]) [(.ret (.cst (.bl false)))] []), (.set (.nm 1) (.cst (.int 1))), (.for_ (.nm 2) .val [.var 0] [(.aug 1 .mul (.bin .add (.var 2) (.cst (.int 1))))]), (.ret (.cmp .le (.var 1) (.glb "MAX_VECTORS" (64))))]
def d17 : DDef := ⟨⟨("check_box", none), "check_box", "check_box", defArgs (top 23), defBody (top 23), defScope (top 23), [], []⟩, ["box"], ["box"]⟩
def b17 : List CS := [(.ite (.nt (.call 16 [.var 0])) [(.raise 2 [.var 0])] [])]
def d18 : DDef := ⟨⟨("heaps_in", none), "heaps_in", "heaps_in", defArgs (top 24), defBody (top 24), defScope (top 24), [], []⟩, ["box"], ["box"]⟩
def b18 : List CS := [(.exp (.call 17 [.var 0])), (.ret (.call 14 [.var 0]))]
def d19 : DDef := ⟨⟨("pairs_in", none), "pairs_in", "pairs_in", defArgs (top 25), defBody (top 25), defScope (top 25), [], []⟩, ["box"], ["box", "whole", "one"]⟩
def b19 : List CS := [(.exp (.call 17 [.var 0])), (.ret (.lc2 (.nm 1) .val [.call 14 [.var 0]] [] (.nm 2) .val [.call 15 [.var 1]] [] (.tup [.var 2, .call 12 [.var 1, .var 2]]) [1, 2] [2]))]
def d32 : DDef := ⟨⟨("check_book", none), "check_book", "check_book", defArgs (top 28), defBody (top 28), defScope (top 28), [], []⟩, ["value"], ["value"]⟩
def b32 : List CS := [(.ite (.nt (.isC (.var 0) "Book")) [(.raise 3 [.cst (.str "book"), .cst .non])] [])]
def d43 : DDef := ⟨⟨("find_asymmetry", none), "find_asymmetry", "find_asymmetry", defArgs (top 30), defBody (top 30), defScope (top 30), [], []⟩, ["book", "whole"], ["book", "whole", "one", "other"]⟩
def b43 : List CS := [(.for_ (.nm 2) .val [.call 15 [.var 1]] [(.set (.nm 3) (.call 12 [.var 1, .var 2])), (.ite (.ands [.cmp .lt (.call 11 [.var 2]) (.call 11 [.var 3]), .cmp .ne (.mc (.var 0) "fee" [.var 2, .var 3] [] []) (.mc (.var 0) "fee" [.var 3, .var 2] [] [])]) [(.ret (.tup [.cst (.str "symmetry"), .var 2, .var 3]))] [])]), (.ret (.cst .non))]
def d44 : DDef := ⟨⟨("find_nonassociativity", none), "find_nonassociativity", "find_nonassociativity", defArgs (top 31), defBody (top 31), defScope (top 31), [], []⟩, ["book", "whole"], ["book", "whole", "one", "rest", "other", "last", "left"]⟩
def b44 : List CS := [(.for_ (.nm 2) .val [.call 15 [.var 1]] [(.set (.nm 3) (.call 12 [.var 1, .var 2])), (.for_ (.nm 4) .val [.call 15 [.var 3]] [(.set (.nm 5) (.call 12 [.var 3, .var 4])), (.set (.nm 6) (.bin .add (.mc (.var 0) "fee" [.var 2, .var 4] [] []) (.mc (.var 0) "fee" [.call 7 [.var 2, .var 4], .var 5] [] []))), (.ite (.cmp .ne (.var 6) (.bin .add (.mc (.var 0) "fee" [.var 4, .var 5] [] []) (.mc (.var 0) "fee" [.var 2, .var 3] [] []))) [(.ret (.tup [.cst (.str "associativity"), .var 2, .var 4, .var 5]))] [])])]), (.ret (.cst .non))]
def d45 : DDef := ⟨⟨("first_violation_among", none), "first_violation_among", "first_violation_among", defArgs (top 32), defBody (top 32), defScope (top 32), [], []⟩, ["book", "heaps"], ["book", "heaps", "whole", "found"]⟩
def b45 : List CS := [(.for_ (.nm 2) .val [.var 1] [(.set (.nm 3) (.call 43 [.var 0, .var 2])), (.ite (.cmp .is (.var 3) (.cst .non)) [(.set (.nm 3) (.call 44 [.var 0, .var 2]))] []), (.ite (.cmp .isn (.var 3) (.cst .non)) [(.ret (.var 3))] [])]), (.ret (.cst .non))]
def d46 : DDef := ⟨⟨("first_violation", none), "first_violation", "first_violation", defArgs (top 33), defBody (top 33), defScope (top 33), [], []⟩, ["book"], ["book"]⟩
def b46 : List CS := [(.exp (.call 32 [.var 0])), (.ret (.call 45 [.var 0, .call 18 [.mc (.var 0) "box" [] [] []]]))]
def d1000 : DDef := ⟨⟨("_law_hand", none), "_law_hand", "_law_hand", defArgs (top 35), defBody (top 35), defScope (top 35), [], []⟩, ["_law_script", "_law_k"], ["_law_script", "_law_k", "_law_cell", "_law_seed"]⟩
def b1000 : List CS := [(.set (.nm 2) (.idx (.bin .add (.slc (.var 0) (some (.var 1)) (some (.bin .add (.var 1) (.cst (.int 1))))) (.lst [.cst (.int 0)])) (.cst (.int 0)))), (.set (.nm 3) (.bin .mod (.bin .mul (.bin .add (.bin .add (.bin .mod (.var 2) (.cst (.int 2147483647))) (.bin .mul (.cst (.int 7919)) (.var 1))) (.cst (.int 1))) (.cst (.int 48271))) (.cst (.int 2147483629)))), (.ret (.lst [.bin .mul (.bi .int [.cmp .ge (.var 2) (.bin .pow (.cst (.int 10)) (.cst (.int 18)))]) (.var 2), .var 3]))]
def d1001 : DDef := ⟨⟨("_law_draw", none), "_law_draw", "_law_draw", defArgs (top 36), defBody (top 36), defScope (top 36), [], []⟩, ["_law_pool", "_law_size"], ["_law_pool", "_law_size", "_law_found"]⟩
def b1001 : List CS := [(.ite (.cmp .gt (.idx (.var 0) (.cst (.int 0))) (.cst (.int 0))) [(.set (.nm 2) (.bin .mod (.idx (.var 0) (.cst (.int 0))) (.var 1))), (.sub (.var 0) (.cst (.int 0)) (.bin .fdiv (.idx (.var 0) (.cst (.int 0))) (.var 1))), (.ret (.var 2))] []), (.sub (.var 0) (.cst (.int 1)) (.bin .mod (.bin .add (.bin .mul (.idx (.var 0) (.cst (.int 1))) (.cst (.int 48271))) (.cst (.int 11))) (.cst (.int 2147483647)))), (.ret (.bin .mod (.bin .fdiv (.bin .mod (.bin .mul (.idx (.var 0) (.cst (.int 1))) (.idx (.var 0) (.cst (.int 1)))) (.cst (.int 2147483629))) (.cst (.int 64))) (.var 1)))]
def d1009 : DDef := ⟨⟨("_law_heaps", none), "_law_heaps", "_law_heaps", defArgs (top 37), defBody (top 37), defScope (top 37), [], []⟩, ["_law_box_here"], ["_law_box_here", "_law_found", "_law_most", "_law_longer", "_law_row", "_law_heap", "_law_many"]⟩
def b1009 : List CS := [(.set (.nm 1) (.lst [.tup []])), (.for_ (.nm 2) .val [.var 0] [(.set (.nm 3) (.lst [])), (.for_ (.nm 4) .val [.var 1] [(.set (.nm 3) (.bin .add (.var 3) (.lc (.nm 6) .range [.bin .add (.var 2) (.cst (.int 1))] [] (.bin .add (.var 4) (.tup [.var 6])) [6])))]), (.set (.nm 1) (.var 3))]), (.ret (.srtL (.tup [.bi .sum [.var 0], .var 0]) (.lc (.nm 5) .val [.var 1] [.cmp .gt (.bi .sum [.var 5]) (.cst (.int 0))] (.var 5) [5])))]
def d1002 : DDef := ⟨⟨("_law_sum", none), "_law_sum", "_law_sum", defArgs (top 38), defBody (top 38), defScope (top 38), [], []⟩, ["_law_one", "_law_other"], ["_law_one", "_law_other", "_law_first", "_law_second"]⟩
def b1002 : List CS := [(.ret (.bi .tuple [.lc (.tp [2, 3]) .zip [.var 0, .var 1] [] (.bin .add (.var 2) (.var 3)) [2, 3]]))]
def d1010 : DDef := ⟨⟨("_law_less", none), "_law_less", "_law_less", defArgs (top 39), defBody (top 39), defScope (top 39), [], []⟩, ["_law_whole", "_law_one"], ["_law_whole", "_law_one", "_law_first", "_law_second"]⟩
def b1010 : List CS := [(.ret (.bi .tuple [.lc (.tp [2, 3]) .zip [.var 0, .var 1] [] (.bin .sub (.var 2) (.var 3)) [2, 3]]))]
def d1011 : DDef := ⟨⟨("_law_parts", none), "_law_parts", "_law_parts", defArgs (top 40), defBody (top 40), defScope (top 40), [], []⟩, ["_law_whole"], ["_law_whole", "_law_heap"]⟩
def b1011 : List CS := [(.ret (.lc (.nm 1) .val [.call 1009 [.var 0]] [.cmp .ne (.var 1) (.var 0)] (.var 1) [1]))]
def d1014 : DDef := ⟨⟨("_law_box", none), "_law_box", "_law_box", defArgs (top 41), defBody (top 41), defScope (top 41), [], []⟩, ["_law_pool"], ["_law_pool", "_law_some"]⟩
def b1014 : List CS := [(.set (.nm 1) (.lst [.tup [.cst (.int 1)], .tup [.cst (.int 2)], .tup [.cst (.int 3)], .tup [.cst (.int 4)], .tup [.cst (.int 5)], .tup [.cst (.int 1), .cst (.int 1)], .tup [.cst (.int 2), .cst (.int 1)], .tup [.cst (.int 1), .cst (.int 2)], .tup [.cst (.int 2), .cst (.int 2)], .tup [.cst (.int 3), .cst (.int 1)], .tup [.cst (.int 1), .cst (.int 3)], .tup [.cst (.int 1), .cst (.int 1), .cst (.int 1)]])), (.ret (.idx (.bin .add (.var 1) (.lst [.tup [.cst (.int 2), .cst (.int 1), .cst (.int 1)], .tup [.cst (.int 1), .cst (.int 1), .cst (.int 2)]])) (.call 1001 [.var 0, .cst (.int 14)])))]
def d1012 : DDef := ⟨⟨("_law_pairs", none), "_law_pairs", "_law_pairs", defArgs (top 42), defBody (top 42), defScope (top 42), [], []⟩, ["_law_box_here"], ["_law_box_here", "_law_found", "_law_whole", "_law_one"]⟩
def b1012 : List CS := [(.set (.nm 1) (.lst [])), (.for_ (.nm 2) .val [.call 1009 [.var 0]] [(.set (.nm 1) (.bin .add (.var 1) (.lc (.nm 3) .val [.call 1011 [.var 2]] [] (.tup [.var 3, .call 1010 [.var 2, .var 3]]) [3])))]), (.ret (.var 1))]
def d1015 : DDef := ⟨⟨("_law_fees", none), "_law_fees", "_law_fees", defArgs (top 43), defBody (top 43), defScope (top 43), [], []⟩, ["_law_pool", "_law_box_here", "_law_road"], ["_law_pool", "_law_box_here", "_law_road", "_law_worth", "_law_found", "_law_one", "_law_other", "_law_pairs_here", "_law_turn", "_law_heap"]⟩
def b1015 : List CS := [(.set (.nm 3) (.bi .dict [.lc (.nm 9) .val [.call 1009 [.var 1]] [] (.tup [.var 9, .bin .sub (.call 1001 [.var 0, .cst (.int 19)]) (.cst (.int 9))]) [9]])), (.set (.nm 4) (.dct0)), (.for_ (.tp [5, 6]) .val [.call 1012 [.var 1]] [(.sub (.var 4) (.tup [.var 5, .var 6]) (.bin .sub (.bin .sub (.idx (.var 3) (.call 1002 [.var 5, .var 6])) (.idx (.var 3) (.var 5))) (.idx (.var 3) (.var 6)))), (.ite (.cmp .eq (.var 2) (.cst (.int 3))) [(.sub (.var 4) (.tup [.var 5, .var 6]) (.bin .sub (.call 1001 [.var 0, .cst (.int 4)]) (.cst (.int 1))))] [])]), (.set (.nm 7) (.call 1012 [.var 1])), (.for_ (.nm 8) .range [.bin .mul (.idx (.lst [.cst (.int 0), .cst (.int 1), .cst (.int 2), .cst (.int 0)]) (.var 2)) (.bi .int [.cmp .ne (.var 7) (.lst [])])] [(.sub (.var 4) (.idx (.var 7) (.call 1001 [.var 0, .bi .len [.var 7]])) (.bin .sub (.call 1001 [.var 0, .cst (.int 9)]) (.cst (.int 4))))]), (.ret (.var 4))]
def d1039 : DDef := ⟨⟨("_law_broken", none), "_law_broken", "_law_broken", defArgs (top 44), defBody (top 44), defScope (top 44), [], []⟩, ["_law_box_here", "_law_fees_here"], ["_law_box_here", "_law_fees_here", "_law_whole", "_law_one", "_law_other", "_law_rest", "_law_last", "_law_first"]⟩
def b1039 : List CS := [(.for_ (.nm 2) .val [.call 1009 [.var 0]] [(.for_ (.nm 3) .val [.call 1011 [.var 2]] [(.set (.nm 4) (.call 1010 [.var 2, .var 3])), (.ite (.ands [.cmp .lt (.tup [.bi .sum [.var 3], .var 3]) (.tup [.bi .sum [.var 4], .var 4]), .cmp .ne (.idx (.var 1) (.tup [.var 3, .var 4])) (.idx (.var 1) (.tup [.var 4, .var 3]))]) [(.ret (.tup [.cst (.str "symmetry"), .var 3, .var 4]))] [])]), (.for_ (.nm 3) .val [.call 1011 [.var 2]] [(.set (.nm 5) (.call 1010 [.var 2, .var 3])), (.for_ (.nm 4) .val [.call 1011 [.var 5]] [(.set (.nm 6) (.call 1010 [.var 5, .var 4])), (.set (.nm 7) (.bin .add (.idx (.var 1) (.tup [.var 3, .var 4])) (.idx (.var 1) (.tup [.call 1002 [.var 3, .var 4], .var 6])))), (.ite (.cmp .ne (.var 7) (.bin .add (.idx (.var 1) (.tup [.var 4, .var 6])) (.idx (.var 1) (.tup [.var 3, .var 5])))) [(.ret (.tup [.cst (.str "associativity"), .var 3, .var 4, .var 6]))] [])])])]), (.ret (.cst .non))]
def d1040 : DDef := ⟨⟨("_law_great", none), "_law_great", "_law_great", defArgs (top 45), defBody (top 45), defScope (top 45), [], []⟩, ["_law_pool"], ["_law_pool", "_law_box_here", "_law_fees_here", "_law_pairs_here", "_law_one", "_law_other", "_law_bent"]⟩
def b1040 : List CS := [(.set (.nm 1) (.idx (.lst [.tup [.cst (.int 9)], .tup [.cst (.int 4), .cst (.int 3)], .tup [.cst (.int 2), .cst (.int 2), .cst (.int 2)]]) (.call 1001 [.var 0, .cst (.int 3)]))), (.set (.nm 2) (.call 1015 [.var 0, .var 1, .cst (.int 0)])), (.set (.nm 3) (.call 1012 [.var 1])), (.set (.tp [4, 5]) (.idx (.var 3) (.call 1001 [.var 0, .bi .len [.var 3]]))), (.set (.nm 6) (.bi .dict [.var 2])), (.sub (.var 6) (.tup [.var 4, .var 5]) (.bin .add (.idx (.var 2) (.tup [.var 4, .var 5])) (.cst (.int 1)))), (.ite (.cmp .isn (.call 46 [.new "Book" [.var 1, .var 2] [] []]) (.cst .non)) [(.ret (.cst (.bl false)))] []), (.ret (.cmp .eq (.bi .repr [.call 46 [.new "Book" [.var 1, .var 6] [] []]]) (.bi .repr [.call 1039 [.var 1, .var 6]])))]
def d1008 : DDef := ⟨⟨("law", none), "law", "law", defArgs (top 46), defBody (top 46), defScope (top 46), [], []⟩, ["_law_script"], ["_law_script", "_law_k", "_law_pool", "_law_box_here", "_law_fees_here", "_law_ledger", "_law_due"]⟩
def b1008 : List CS := [(.ite (.nt (.call 1040 [.call 1000 [.var 0, .cst (.int 0)]])) [(.ret (.cst (.bl false)))] []), (.for_ (.nm 1) .range [.bi .max2 [.cst (.int 2), .bi .min2 [.bi .len [.var 0], .cst (.int 16)]]] [(.set (.nm 2) (.call 1000 [.var 0, .var 1])), (.set (.nm 3) (.call 1014 [.var 2])), (.set (.nm 4) (.call 1015 [.var 2, .var 3, .call 1001 [.var 2, .cst (.int 4)]])), (.set (.nm 5) (.new "Book" [.var 3, .var 4] [] [])), (.set (.nm 6) (.bi .repr [.call 1039 [.var 3, .var 4]])), (.ite (.ors [.cmp .ne (.bi .repr [.call 46 [.var 5]]) (.var 6), .cmp .ne (.bi .repr [.callk 46 [] ["book"] [.var 5]]) (.var 6)]) [(.ret (.cst (.bl false)))] [])]), (.ret (.cst (.bl true)))]
def d20 : DDef := ⟨⟨("Book", some "__init__"), "__init__", "Book.__init__", defArgs (clsFn 0 (top 27)), defBody (clsFn 0 (top 27)), defScope (clsFn 0 (top 27)), [], []⟩, ["self", "box", "fees"], ["self", "box", "fees", "pairs", "pair"]⟩
def b20 : List CS := [(.ite (.nt (.call 16 [.var 1])) [(.raise 3 [.cst (.str "box"), .cst .non])] []), (.ite (.nt (.bi (.isi .dict) [.var 2])) [(.raise 3 [.cst (.str "fees"), .cst .non])] []), (.set (.nm 3) (.call 19 [.var 1])), (.for_ (.nm 4) .val [.var 3] [(.ite (.nt (.call 0 [.mt .get (.var 2) [.var 4]])) [(.raise 3 [.cst (.str "fee"), .var 4])] [])]), (.ite (.cmp .ne (.bi .len [.var 2]) (.bi .len [.var 3])) [(.raise 3 [.cst (.str "more"), .cst .non])] []), (.fset (.var 0) "own_box" (.var 1)), (.fset (.var 0) "own_fees" (.dc (.nm 4) .val [.var 3] [] (.var 4) (.idx (.var 2) (.var 4)) [4]))]
def d21 : DDef := ⟨⟨("Book", some "box"), "box", "Book.box", defArgs (clsFn 1 (top 27)), defBody (clsFn 1 (top 27)), defScope (clsFn 1 (top 27)), [], []⟩, ["self"], ["self"]⟩
def b21 : List CS := [(.ret (.fld (.var 0) "own_box"))]
def d22 : DDef := ⟨⟨("Book", some "kinds"), "kinds", "Book.kinds", defArgs (clsFn 2 (top 27)), defBody (clsFn 2 (top 27)), defScope (clsFn 2 (top 27)), [], []⟩, ["self"], ["self"]⟩
def b22 : List CS := [(.ret (.bi .len [.fld (.var 0) "own_box"]))]
def d23 : DDef := ⟨⟨("Book", some "is_pair"), "is_pair", "Book.is_pair", defArgs (clsFn 3 (top 27)), defBody (clsFn 3 (top 27)), defScope (clsFn 3 (top 27)), [], []⟩, ["self", "one", "other"], ["self", "one", "other"]⟩
def b23 : List CS := [(.ite (.ors [.nt (.call 4 [.var 1, .mc (.var 0) "kinds" [] [] []]), .nt (.call 4 [.var 2, .mc (.var 0) "kinds" [] [] []])]) [(.ret (.cst (.bl false)))] []), (.ret (.call 8 [.call 7 [.var 1, .var 2], .fld (.var 0) "own_box"]))]
def d24 : DDef := ⟨⟨("Book", some "fee"), "fee", "Book.fee", defArgs (clsFn 4 (top 27)), defBody (clsFn 4 (top 27)), defScope (clsFn 4 (top 27)), [], []⟩, ["self", "one", "other"], ["self", "one", "other"]⟩
def b24 : List CS := [(.ite (.nt (.mc (.var 0) "is_pair" [.var 1, .var 2] [] [])) [.wall] []), (.ret (.idx (.fld (.var 0) "own_fees") (.tup [.var 1, .var 2])))]
def d25 : DDef := ⟨⟨("Book", some "fees"), "fees", "Book.fees", defArgs (clsFn 5 (top 27)), defBody (clsFn 5 (top 27)), defScope (clsFn 5 (top 27)), [], []⟩, ["self"], ["self"]⟩
def b25 : List CS := [(.ret (.bi .dict [.fld (.var 0) "own_fees"]))]
def d26 : DDef := ⟨⟨("Book", some "with_fee"), "with_fee", "Book.with_fee", defArgs (clsFn 6 (top 27)), defBody (clsFn 6 (top 27)), defScope (clsFn 6 (top 27)), [], []⟩, ["self", "one", "other", "fee"], ["self", "one", "other", "fee"]⟩
def b26 : List CS := [(.exp (.call 30 [.cst (.int 0)]))]
def d27 : DDef := ⟨⟨("Book", some "__eq__"), "__eq__", "Book.__eq__", defArgs (clsFn 7 (top 27)), defBody (clsFn 7 (top 27)), defScope (clsFn 7 (top 27)), [], []⟩, ["self", "other"], ["self", "other"]⟩
def b27 : List CS := [(.ret (.ands [.isC (.var 1) "Book", .cmp .eq (.fld (.var 0) "own_box") (.fld (.var 1) "own_box"), .cmp .eq (.fld (.var 0) "own_fees") (.fld (.var 1) "own_fees")]))]
def d28 : DDef := ⟨⟨("Book", some "__len__"), "__len__", "Book.__len__", defArgs (clsFn 8 (top 27)), defBody (clsFn 8 (top 27)), defScope (clsFn 8 (top 27)), [], []⟩, ["self"], ["self"]⟩
def b28 : List CS := [(.ret (.bi .len [.fld (.var 0) "own_fees"]))]
def d29 : DDef := ⟨⟨("Book", some "__repr__"), "__repr__", "Book.__repr__", defArgs (clsFn 9 (top 27)), defBody (clsFn 9 (top 27)), defScope (clsFn 9 (top 27)), [], []⟩, ["self"], ["self"]⟩
def b29 : List CS := [(.ret (.bad))]
def x1 : DDef := ⟨⟨("InvalidNumber", some "__init__"), "__init__", "InvalidNumber.__init__", defArgs (clsFn 0 (top 2)), defBody (clsFn 0 (top 2)), defScope (clsFn 0 (top 2)), [], []⟩, ["self", "value"], ["self", "value"]⟩
def x2 : DDef := ⟨⟨("InvalidBox", some "__init__"), "__init__", "InvalidBox.__init__", defArgs (clsFn 0 (top 3)), defBody (clsFn 0 (top 3)), defScope (clsFn 0 (top 3)), [], []⟩, ["self", "value"], ["self", "value"]⟩
def x3 : DDef := ⟨⟨("InvalidBook", some "__init__"), "__init__", "InvalidBook.__init__", defArgs (clsFn 0 (top 4)), defBody (clsFn 0 (top 4)), defScope (clsFn 0 (top 4)), [], []⟩, ["self", "part", "pair"], ["self", "part", "pair"]⟩
def Lx : Lw where
  defs := [(30, d30, b30), (0, d0, b0), (1, d1, b1), (2, d2, b2), (3, d3, b3), (4, d4, b4), (11, d11, b11), (7, d7, b7), (12, d12, b12), (8, d8, b8), (13, d13, b13), (14, d14, b14), (15, d15, b15), (16, d16, b16), (17, d17, b17), (18, d18, b18), (19, d19, b19), (32, d32, b32), (43, d43, b43), (44, d44, b44), (45, d45, b45), (46, d46, b46), (1000, d1000, b1000), (1001, d1001, b1001), (1009, d1009, b1009), (1002, d1002, b1002), (1010, d1010, b1010), (1011, d1011, b1011), (1014, d1014, b1014), (1012, d1012, b1012), (1015, d1015, b1015), (1039, d1039, b1039), (1040, d1040, b1040), (1008, d1008, b1008), (20, d20, b20), (21, d21, b21), (22, d22, b22), (23, d23, b23), (24, d24, b24), (25, d25, b25), (26, d26, b26), (27, d27, b27), (28, d28, b28), (29, d29, b29)]
  excs := [(1, "InvalidNumber", ["value"], x1), (2, "InvalidBox", ["value"], x2), (3, "InvalidBook", ["part", "pair"], x3)]
  gls := [("MAX_KINDS", 3), ("MAX_SIZE", 24), ("MAX_VECTORS", 64)]
  frs := ["all", "any", "bool", "dict", "int", "isinstance", "len", "max", "min", "range", "repr", "sorted", "sum", "tuple", "zip"]
  isx := []
  mts := []
  xns := []
  fu := 1000000
  lms := ["_law_heaps"]
  cls := [⟨"Book", some 20, [("box", 21), ("kinds", 22), ("is_pair", 23), ("fee", 24), ("fees", 25), ("with_fee", 26), ("__eq__", 27), ("__len__", 28), ("__repr__", 29)], ["own_box", "own_fees"]⟩]
end K14
set_option Elab.async false
set_option linter.all false
set_option maxRecDepth 100000
set_option maxHeartbeats 0
namespace K14
open PySem PV
theorem chk_ok : Lx.chk = true := by kernel_rfl
end K14
set_option Elab.async false
set_option linter.all false
set_option maxRecDepth 100000
set_option maxHeartbeats 0
namespace K14
open PySem PySem.Spec PyProof.Rows L2 PV
abbrev R : PySem.W.OpenRow := PySem.W.OpenLaw.row PySem.Challenge.rw_partingfees_k14_first_violation
def loose : List Str := [("_wall" : Str), ("__name__" : Str), ("InvalidNumber" : Str), ("InvalidBox" : Str), ("InvalidBook" : Str), ("UnknownPair" : Str), ("__name__" : Str), ("MAX_KINDS" : Str), ("MAX_SIZE" : Str), ("MAX_VECTORS" : Str), ("is_integer" : Str), ("in_range" : Str), ("are_counts" : Str), ("is_any_heap" : Str), ("is_heap" : Str), ("heap_key" : Str), ("add" : Str), ("subtract" : Str), ("fits_in" : Str), ("vectors_up_to" : Str), ("heaps_up_to" : Str), ("proper_parts" : Str), ("is_box" : Str), ("check_box" : Str), ("heaps_in" : Str), ("pairs_in" : Str), ("__name__" : Str), ("Book" : Str), ("check_book" : Str), ("__name__" : Str), ("find_asymmetry" : Str), ("find_nonassociativity" : Str), ("first_violation_among" : Str), ("first_violation" : Str), ("__name__" : Str), ("_law_hand" : Str), ("_law_draw" : Str), ("_law_heaps" : Str), ("_law_sum" : Str), ("_law_less" : Str), ("_law_parts" : Str), ("_law_box" : Str), ("_law_pairs" : Str), ("_law_fees" : Str), ("_law_broken" : Str), ("_law_great" : Str)]
theorem run (w : World) : HandSHeadRun.RunEq R (PySem.W.view R.prog [46]) (Lx.hook 6) (Lx.ob 6) 4000 loose w := by
  intro os
  kernel_rfl
end K14
set_option Elab.async false
set_option linter.all false
set_option autoImplicit false
set_option maxRecDepth 100000
set_option maxHeartbeats 1000000
namespace PV
open PySem
variable {b : List MO}
theorem HS.ext' {s t : HS b} (h1 : s.M = t.M) (h2 : s.lo = t.lo) : s = t := by
  obtain ⟨M, lo, ok⟩ := s
  obtain ⟨M', lo', ok'⟩ := t
  cases h1
  cases h2
  rfl
@[simp] theorem grow_nil (s : HS b) : s.grow [] = s := HS.ext' (List.append_nil _) rfl
theorem grow_one (s : HS b) (o : MO) : s.grow [o] = s.alloc o := rfl
@[simp] theorem bnd_ok {α β : Type} (a : α) (s : HS b) (f : α → HS b → R b β) : bnd (ret a s) f = f a s := rfl
@[simp] theorem noX_ok {α : Type} (a : α) (s : HS b) : noX (ret a s) = ret a s := rfl
@[simp] theorem lft_ret {α : Type} (e : Env) (a : α) (s : HS b) (f : α → HS b → Option (SR b)) : lft e (ret a s) f = f a s := rfl
@[simp] theorem sq_nx (e : Env) (s : HS b) (f : Env → HS b → Option (SR b)) : sq (some (.nx e s)) f = f e s := rfl
@[simp] theorem sq_rt (d : D) (s : HS b) (f : Env → HS b → Option (SR b)) : sq (some (.rt d s)) f = some (.rt d s) := rfl
@[simp] theorem sq_ex (c : Nat) (fs : List (Str × D)) (e : Env) (s : HS b) (f : Env → HS b → Option (SR b)) : sq (some (.ex c fs e s)) f = some (.ex c fs e s) := rfl
@[simp] theorem alloc_M (s : HS b) (o : MO) : (s.alloc o).M = s.M ++ [o] := rfl
@[simp] theorem alloc_lo (s : HS b) (o : MO) : (s.alloc o).lo = s.lo := rfl
@[simp] theorem set_M (s : HS b) (i : Nat) (o : MO) : (s.set i o).M = s.M.set i o := rfl
@[simp] theorem set_lo (s : HS b) (i : Nat) (o : MO) : (s.set i o).lo = min s.lo i := rfl
@[simp] theorem start_M (M : List MO) : (HS.start M).M = M := rfl
@[simp] theorem start_lo (M : List MO) : (HS.start M).lo = M.length := rfl
@[simp] theorem back_M (s : HS b) (s1 : HS s.M) : (s.back s1).M = s1.M := rfl
@[simp] theorem back_lo (s : HS b) (s1 : HS s.M) : (s.back s1).lo = min s.lo s1.lo := rfl
theorem call_rt {p : Pg} {k f : Nat} {xs : List D} {s : HS b} {d : Fd} {r : D} {s1 : HS s.M} (h1 : p.tb f = some d) (h2 : xs.length = d.ps) (h3 : exB (p.ev k) none d.body (xs.map some ++ List.replicate (d.n - xs.length) none) (HS.start s.M) = some (.rt r s1)) : callF p (k + 1) f xs s = fin s r s1 := by
  simp only [callF, h1, h2, if_true]
  show finish s (exB (p.ev k) none d.body _ _) = _
  rw [← h2, h3]
  rfl
theorem call_nx {p : Pg} {k f : Nat} {xs : List D} {s : HS b} {d : Fd} {e : Env} {s1 : HS s.M} (h1 : p.tb f = some d) (h2 : xs.length = d.ps) (h3 : exB (p.ev k) none d.body (xs.map some ++ List.replicate (d.n - xs.length) none) (HS.start s.M) = some (.nx e s1)) : callF p (k + 1) f xs s = fin s .non s1 := by
  simp only [callF, h1, h2, if_true]
  show finish s (exB (p.ev k) none d.body _ _) = _
  rw [← h2, h3]
  rfl
theorem call_ex {p : Pg} {k f : Nat} {xs : List D} {s : HS b} {d : Fd} {c : Nat} {fs : List (Str × D)} {e : Env} {s1 : HS s.M} (h1 : p.tb f = some d) (h2 : xs.length = d.ps) (h3 : exB (p.ev k) none d.body (xs.map some ++ List.replicate (d.n - xs.length) none) (HS.start s.M) = some (.ex c fs e s1)) : callF p (k + 1) f xs s = some (.ex c fs (s.back s1)) := by
  simp only [callF, h1, h2, if_true]
  show finish s (exB (p.ev k) none d.body _ _) = _
  rw [← h2, h3]
  rfl
theorem fin_imm {s : HS b} {d : D} {s1 : HS s.M} (h1 : s1.lo = s.M.length) (h2 : d.imm = true) : fin s d s1 = ret d s := by
  unfold fin
  rw [if_pos h1]
  have : pull s.M.length s1.M d = some (d, []) := by
    cases d <;> simp_all [pull, D.imm]
  rw [this]
  simp
theorem fin_lst {s : HS b} {i : Nat} {xs : List D} {s1 : HS s.M} (h1 : s1.lo = s.M.length) (h2 : s.M.length ≤ i) (h3 : s1.M[i]? = some (.lst true xs)) (h4 : D.immL xs = true) : fin s (.ref i) s1 = ret (.ref s.M.length) (s.alloc (.lst true xs)) := by
  unfold fin
  rw [if_pos h1]
  have : pull s.M.length s1.M (.ref i) = some (.ref s.M.length, [.lst true xs]) := by
    simp only [pull]
    rw [if_neg (by omega)]
    simp [h3, h4]
  rw [this]
  rfl
theorem fin_keep {s : HS b} {d : D} {s1 : HS s.M} (h1 : s1.lo ≠ s.M.length) : fin s d s1 = ret d (s.back s1) := by
  unfold fin
  rw [if_neg h1]
theorem lcL_pure {at_ : Nat → HS b → Option (Option D)} {turn : D → HS b → R b (Option D)} {s : HS b} {g : D → Option D} {xs : List D} (h1 : ∀ i, at_ i s = some xs[i]?) (h2 : ∀ d ∈ xs, turn d s = ret (g d) s) :
    ∀ (n i : Nat) (acc : List D), xs.length < n + i → i ≤ xs.length → lcL at_ turn n i acc s = ret (acc ++ (xs.drop i).filterMap g) s
  | 0, i, acc, h, hle => by omega
  | n + 1, i, acc, h, hle => by
    simp only [lcL, h1]
    cases e : xs[i]? with
    | none =>
      have hd : xs.drop i = [] := List.drop_eq_nil_of_le (by simpa using e)
      simp [hd]
    | some d =>
      have hi := (List.getElem?_eq_some_iff.mp e).1
      have hd : xs.drop i = d :: xs.drop (i + 1) := by
        rw [List.drop_eq_getElem_cons hi]
        congr 1
        exact (List.getElem?_eq_some_iff.mp e).2
      simp only
      rw [h2 d (List.mem_of_getElem? e), bnd_ok]
      cases hg : g d with
      | none =>
        simp only
        rw [lcL_pure h1 h2 n (i + 1) acc (by omega) hi, hd]
        simp [hg]
      | some y =>
        simp only
        rw [lcL_pure h1 h2 n (i + 1) (acc ++ [y]) (by omega) hi, hd]
        simp [hg]
section
variable {P : Ev} {X : Cur} {e : Env} {s : HS b}
theorem ev_cst (d : D) : evE P X (.cst d) e s = ret d s := rfl
theorem ev_var (i : Nat) : evE P X (.var i) e s = (match e[i]? with | some (some d) => ret d s | _ => none) := rfl
theorem ev_glb (x : Str) (i : Int) : evE P X (.glb x i) e s = ret (.int i) s := rfl
theorem ev_bin (o : B2) (a c : CE) : evE P X (.bin o a c) e s = bnd (evE P X a e s) fun x s1 => bnd (evE P X c e s1) fun y s2 => bin o x y s2 := rfl
theorem ev_neg (a : CE) : evE P X (.neg a) e s = bnd (evE P X a e s) fun x s1 => (match x with | .int i => ret (.int (-i)) s1 | _ => none) := rfl
theorem ev_cmp (o : C2) (a c : CE) : evE P X (.cmp o a c) e s = bnd (evE P X a e s) fun x s1 => bnd (evE P X c e s1) fun y s2 => cmp o x y s2 := rfl
theorem ev_chn (o o2 : C2) (a c d : CE) : evE P X (.chn o o2 a c d) e s = bnd (evE P X a e s) fun x s1 => bnd (evE P X c e s1) fun y s2 => bnd (cmp o x y s2) fun z s3 => (match z with
    | .bl true => bnd (evE P X d e s3) fun w s4 => cmp o2 y w s4
    | .bl false => ret (.bl false) s3
    | _ => none) := rfl
theorem ev_ands (es : List CE) : evE P X (.ands es) e s = evAnd P X es e s := rfl
theorem ev_ors (es : List CE) : evE P X (.ors es) e s = evOr P X es e s := rfl
theorem ev_nt (a : CE) : evE P X (.nt a) e s = bnd (evE P X a e s) fun x s1 => (match truth s1.M x with | some b => ret (.bl (!b)) s1 | none => none) := rfl
theorem ev_ite (c a d : CE) : evE P X (.ite c a d) e s = bnd (evE P X c e s) fun x s1 => (match truth s1.M x with
    | some true => evE P X a e s1
    | some false => evE P X d e s1
    | none => none) := rfl
theorem ev_tup (es : List CE) : evE P X (.tup es) e s = bnd (evL P X es e s) fun xs s1 => if sizeOk xs.length then ret (.tup xs) s1 else none := rfl
theorem ev_lst (es : List CE) : evE P X (.lst es) e s = bnd (evL P X es e s) fun xs s1 => if sizeOk xs.length then ret (.ref s1.M.length) (s1.alloc (.lst true xs)) else none := rfl
theorem ev_dct0 : evE P X .dct0 e s = ret (.ref s.M.length) (s.alloc (.dct 0 [])) := rfl
theorem ev_call (f : Nat) (es : List CE) : evE P X (.call f es) e s = bnd (evL P X es e s) fun xs s1 => P.cf f xs s1 := rfl
theorem ev_callk (f : Nat) (es : List CE) (ks : List Str) (kes : List CE) : evE P X (.callk f es ks kes) e s = (match P.ar f with
    | some a => bnd (evL P X es e s) fun xs s1 => bnd (evL P X kes e s1) fun ys s2 => (match arr a xs ks ys with
      | some zs => P.cf f zs s2
      | none => none)
    | none => none) := rfl
theorem ev_mt (m : MT) (o : CE) (es : List CE) : evE P X (.mt m o es) e s = bnd (evE P X o e s) fun x s1 => if mtOk m s1.M x then bnd (evL P X es e s1) fun xs s2 => meth m x xs s2 else none := rfl
theorem ev_bi (g : BI) (es : List CE) : evE P X (.bi g es) e s = bnd (evL P X es e s) fun xs s1 => PV.call g xs s1 := rfl
theorem ev_idx (a c : CE) : evE P X (.idx a c) e s = bnd (evE P X a e s) fun x s1 => bnd (evE P X c e s1) fun y s2 => index x y s2 := rfl
theorem ev_slc (a : CE) (lo hi : Option CE) : evE P X (.slc a lo hi) e s = bnd (evE P X a e s) fun x s1 => bnd (evO P X lo e s1) fun l s2 => bnd (evO P X hi e s2) fun h s3 => slice x l h s3 := rfl
theorem ev_nil : evL P X [] e s = ret [] s := rfl
theorem ev_cons (a : CE) (r : List CE) : evL P X (a :: r) e s = bnd (evE P X a e s) fun x s1 => bnd (evL P X r e s1) fun xs s2 => ret (x :: xs) s2 := rfl
theorem ev_and1 (a : CE) : evAnd P X [a] e s = bnd (evE P X a e s) fun x s1 => ret x s1 := rfl
theorem ev_and2 (a c : CE) (r : List CE) : evAnd P X (a :: c :: r) e s = bnd (evE P X a e s) fun x s1 => (match truth s1.M x with
      | some true => evAnd P X (c :: r) e s1
      | some false => ret x s1
      | none => none) := rfl
theorem ev_or1 (a : CE) : evOr P X [a] e s = bnd (evE P X a e s) fun x s1 => ret x s1 := rfl
theorem ev_or2 (a c : CE) (r : List CE) : evOr P X (a :: c :: r) e s = bnd (evE P X a e s) fun x s1 => (match truth s1.M x with
      | some true => ret x s1
      | some false => evOr P X (c :: r) e s1
      | none => none) := rfl
theorem ev_if0 : evIf P X [] e s = ret true s := rfl
theorem ev_if1 (c : CE) : evIf P X [c] e s = bnd (evE P X c e s) fun x s1 => (match truth s1.M x with | some b => ret b s1 | none => none) := rfl
theorem lc_pure {tg : Tg} {k : ITk} {src ifs : List CE} {elt : CE} {own : List Nat} {s0 : HS b} {r : Src} {xs : List D} {g : D → Option D} (h1 : (bnd (evL P X src e s) fun xs s1 => srcR k xs s1) = ret r s0) (h2 : ∀ i, r.at i s0 = some xs[i]?)
    (h3 : ∀ d ∈ xs, turnC P tg ifs elt (wipeE e own) d s0 = ret (g d) s0) (h4 : xs.length < P.fu) : evE P X (.lc tg k src ifs elt own) e s = ret (.ref s0.M.length) (s0.alloc (.lst true (xs.filterMap g))) := by
  rw [evE_lc, h1, bnd_ok, lcL_pure h2 h3 P.fu 0 [] (by omega) (Nat.zero_le _), bnd_ok]
  simp
end
def HS.wf (s : HS b) : Prop := s.lo ≤ s.M.length
theorem back_start {s : HS b} (h : s.wf) : s.back (HS.start s.M) = s := HS.ext' rfl (by
  show min s.lo s.M.length = s.lo
  exact Nat.min_eq_left h)
theorem start_wf (M : List MO) : (HS.start M).wf := Nat.le_refl _
theorem alloc_wf {s : HS b} (h : s.wf) (o : MO) : (s.alloc o).wf := by
  show s.lo ≤ (s.M ++ [o]).length
  rw [List.length_append]
  exact Nat.le_trans h (Nat.le_add_right _ _)
section
variable {s : HS b} {i j : Int}
theorem cmp_lt : cmp .lt (.int i) (.int j) s = ret (.bl (decide (i < j))) s := rfl
theorem cmp_le : cmp .le (.int i) (.int j) s = ret (.bl (decide (i ≤ j))) s := rfl
theorem cmp_gt : cmp .gt (.int i) (.int j) s = ret (.bl (decide (j < i))) s := rfl
theorem cmp_ge : cmp .ge (.int i) (.int j) s = ret (.bl (decide (j ≤ i))) s := rfl
theorem cmp_eqi : cmp .eq (.int i) (.int j) s = ret (.bl (i == j)) s := rfl
theorem cmp_nei : cmp .ne (.int i) (.int j) s = ret (.bl (!(i == j))) s := rfl
theorem cmp_isn {x y : Bool} : cmp .isn (.bl x) (.bl y) s = ret (.bl (!decide (x = y))) s := rfl
theorem bin_add : bin .add (.int i) (.int j) s = ret (.int (i + j)) s := rfl
theorem bin_sub : bin .sub (.int i) (.int j) s = ret (.int (i - j)) s := rfl
theorem bin_mul (h : mulOk i j = true) : bin .mul (.int i) (.int j) s = ret (.int (i * j)) s := by simp [bin, h]
theorem bin_mod (h : j ≠ 0) : bin .mod (.int i) (.int j) s = ret (.int (i.fmod j)) s := by simp [bin, h]
theorem bin_fdiv (h : divOk j = true) : bin .fdiv (.int i) (.int j) s = ret (.int (i.fdiv j)) s := by simp [bin, h]
theorem mulOk_right (h : j.natAbs < 2 ^ 64) : mulOk i j = true := by simp [mulOk, h]
theorem mulOk_left (h : i.natAbs < 2 ^ 64) : mulOk i j = true := by simp [mulOk, h]
theorem index_ref {p : Nat} {w : Bool} {xs : List D} {d : D} (h1 : s.M[p]? = some (.lst w xs)) (h2 : L2.atI xs i = some d) : index (.ref p) (.int i) s = ret d s := by simp [index, h1, h2]
theorem index_tup {xs : List D} {d : D} (h2 : L2.atI xs i = some d) : index (.tup xs) (.int i) s = ret d s := by simp [index, h2]
theorem setItem_ref {p k : Nat} {xs : List D} {v : D} (h1 : s.M[p]? = some (.lst true xs)) (h2 : L2.ixN xs.length i = some k) : setItem (.ref p) (.int i) v s = some (s.set p (.lst true (xs.set k v))) := by simp [setItem, h1, h2]
end
end PV
set_option Elab.async false
set_option linter.all false
set_option autoImplicit false
set_option maxRecDepth 100000
set_option maxHeartbeats 1000000
namespace PV
open PySem
variable {b : List MO} {α β : Type}
abbrev XW (b : List MO) := Nat → List (Str × D) → HS b → Prop
def W (x : R b α) (Q : α → HS b → Prop) (E : XW b) : Prop := match x with
  | none => False
  | some (.ok a s) => Q a s
  | some (.ex c fs s) => E c fs s
def X0 : XW b := fun _ _ _ => False
section
variable {x : R b α} {Q Q' : α → HS b → Prop} {E E' : XW b}
theorem W_ret (a : α) (s : HS b) : W (ret a s) Q E = Q a s := rfl
theorem W_ok (a : α) (s : HS b) : W (some (.ok a s)) Q E = Q a s := rfl
theorem W_ex (c : Nat) (fs : List (Str × D)) (s : HS b) : W (some (.ex c fs s)) Q E = E c fs s := rfl
theorem W_bnd {Q : β → HS b → Prop} (f : α → HS b → R b β) : W (bnd x f) Q E = W x (fun a s => W (f a s) Q E) E := by
  cases x with
  | none => rfl
  | some o => cases o <;> rfl
theorem W.mono (h : W x Q E) (hq : ∀ a s, Q a s → Q' a s) (he : ∀ c fs s, E c fs s → E' c fs s) : W x Q' E' := by
  cases x with
  | none => exact h
  | some o =>
    cases o with
    | ok a s => exact hq a s h
    | ex c fs s => exact he c fs s h
theorem W.imp (h : W x Q X0) (hq : ∀ a s, Q a s → Q' a s) : W x Q' E := h.mono hq fun _ _ _ z => z.elim
theorem W.get (h : W x Q X0) : ∃ a s, x = ret a s ∧ Q a s := by
  cases x with
  | none => exact h.elim
  | some o =>
    cases o with
    | ok a s => exact ⟨a, s, rfl, h⟩
    | ex c fs s => exact h.elim
theorem W_noX (h : W x Q X0) : W (noX x) Q E := by
  obtain ⟨a, s, rfl, q⟩ := h.get
  exact q
end
def WS (x : Option (SR b)) (N : Env → HS b → Prop) (T : D → HS b → Prop) (E : Nat → List (Str × D) → Env → HS b → Prop) : Prop := match x with
  | none => False
  | some (.nx e s) => N e s
  | some (.rt d s) => T d s
  | some (.ex c fs e s) => E c fs e s
section
variable {x : Option (SR b)} {N N' : Env → HS b → Prop} {T T' : D → HS b → Prop} {E E' : Nat → List (Str × D) → Env → HS b → Prop}
theorem WS_nx (e : Env) (s : HS b) : WS (some (.nx e s)) N T E = N e s := rfl
theorem WS_rt (d : D) (s : HS b) : WS (some (.rt d s)) N T E = T d s := rfl
theorem WS_ex (c : Nat) (fs : List (Str × D)) (e : Env) (s : HS b) : WS (some (.ex c fs e s)) N T E = E c fs e s := rfl
theorem WS_lft (e : Env) (y : R b α) (f : α → HS b → Option (SR b)) : WS (lft e y f) N T E = W y (fun a s => WS (f a s) N T E) (fun c fs s => E c fs e s) := by
  cases y with
  | none => rfl
  | some o => cases o <;> rfl
theorem WS_sq (f : Env → HS b → Option (SR b)) : WS (sq x f) N T E = WS x (fun e s => WS (f e s) N T E) T E := by
  cases x with
  | none => rfl
  | some o => cases o <;> rfl
theorem WS.mono (h : WS x N T E) (hn : ∀ e s, N e s → N' e s) (ht : ∀ d s, T d s → T' d s) (he : ∀ c fs e s, E c fs e s → E' c fs e s) : WS x N' T' E' := by
  cases x with
  | none => exact h
  | some o =>
    cases o with
    | nx e s => exact hn e s h
    | rt d s => exact ht d s h
    | ex c fs e s => exact he c fs e s h
end
theorem W_call {p : Pg} {k f : Nat} {xs : List D} {s : HS b} {d : Fd} {Q : D → HS b → Prop} {E : XW b} (h1 : p.tb f = some d) (h2 : xs.length = d.ps)
    (h3 : WS (exB (p.ev k) none d.body (xs.map some ++ List.replicate (d.n - xs.length) none) (HS.start s.M)) (fun _ s1 => W (fin s .non s1) Q E) (fun r s1 => W (fin s r s1) Q E) (fun c fs _ s1 => E c fs (s.back s1))) : W (callF p (k + 1) f xs s) Q E := by
  have e : callF p (k + 1) f xs s = finish s (exB (p.ev k) none d.body (xs.map some ++ List.replicate (d.n - xs.length) none) (HS.start s.M)) := by
    simp only [callF, h1, if_pos h2]
    rfl
  rw [e]
  cases h : exB (p.ev k) none d.body (xs.map some ++ List.replicate (d.n - xs.length) none) (HS.start s.M) with
  | none => rw [h] at h3; exact h3
  | some o =>
    rw [h] at h3
    cases o <;> exact h3
theorem forL_W {at_ : Nat → HS b → Option (Option D)} {turn : D → Env → HS b → Option (SR b)} {N : Env → HS b → Prop} {T : D → HS b → Prop} {E : Nat → List (Str × D) → Env → HS b → Prop} (m : Nat) (I : Nat → Env → HS b → Prop)
    (h : ∀ i e s, I i e s → i ≤ m ∧ ((at_ i s = some none ∧ N e s) ∨ (i < m ∧ ∃ d, at_ i s = some (some d) ∧ WS (turn d e s) (I (i + 1)) T E))) : ∀ (n i : Nat) (e : Env) (s : HS b), m < n + i → I i e s → WS (forL at_ turn n i e s) N T E
  | 0, i, e, s, hn, hI => by
    have := (h i e s hI).1
    omega
  | n + 1, i, e, s, hn, hI => by
    obtain ⟨_, ⟨e1, q⟩ | ⟨hm, d, e1, q⟩⟩ := h i e s hI
    · simp only [forL, e1]
      exact q
    · simp only [forL, e1, WS_sq]
      exact q.mono (fun e' s' hI' => forL_W m I h n (i + 1) e' s' (by omega) hI') (fun _ _ z => z) fun _ _ _ _ z => z
theorem whL_W {c : Env → HS b → R b Bool} {body : Env → HS b → Option (SR b)} {N : Env → HS b → Prop} {T : D → HS b → Prop} {E : Nat → List (Str × D) → Env → HS b → Prop} (I : Env → HS b → Prop) (μ : Env → HS b → Nat)
    (h : ∀ e s, I e s → W (c e s) (fun t s1 => (t = true ∧ WS (body e s1) (fun e' s' => I e' s' ∧ μ e' s' < μ e s) T E) ∨ (t = false ∧ N e s1)) (fun cc fs s1 => E cc fs e s1)) : ∀ (n : Nat) (e : Env) (s : HS b), μ e s < n → I e s → WS (whL c body n e s) N T E
  | 0, e, s, hn, hI => by omega
  | n + 1, e, s, hn, hI => by
    simp only [whL, WS_lft]
    refine (h e s hI).mono (fun t s1 q => ?_) fun _ _ _ z => z
    rcases q with ⟨rfl, q⟩ | ⟨rfl, q⟩
    · simp only [if_true, WS_sq]
      exact q.mono (fun e' s' z => whL_W I μ h n e' s' (by omega) z.1) (fun _ _ z => z) fun _ _ _ _ z => z
    · exact q
theorem lcL_W {at_ : Nat → HS b → Option (Option D)} {turn : D → HS b → R b (Option D)} {Q : List D → HS b → Prop} {E : XW b} (m : Nat) (I : Nat → List D → HS b → Prop)
    (h : ∀ i acc s, I i acc s → i ≤ m ∧ ((at_ i s = some none ∧ Q acc s) ∨ (i < m ∧ ∃ d, at_ i s = some (some d) ∧ W (turn d s) (fun r s1 => match r with | some y => I (i + 1) (acc ++ [y]) s1 | none => I (i + 1) acc s1) E))) : ∀ (n i : Nat) (acc : List D) (s : HS b), m < n + i → I i acc s → W (lcL at_ turn n i acc s) Q E
  | 0, i, acc, s, hn, hI => by
    have := (h i acc s hI).1
    omega
  | n + 1, i, acc, s, hn, hI => by
    obtain ⟨_, ⟨e1, q⟩ | ⟨hm, d, e1, q⟩⟩ := h i acc s hI
    · simp only [lcL, e1]
      exact q
    · simp only [lcL, e1, W_bnd]
      refine q.mono (fun r s1 z => ?_) fun _ _ _ z => z
      cases r with
      | some y => exact lcL_W m I h n (i + 1) _ s1 (by omega) z
      | none => exact lcL_W m I h n (i + 1) _ s1 (by omega) z
theorem rngs {n : Int} (h1 : -1000000 ≤ n) (h2 : n ≤ 1000000) (S : HS b) : srcR .range [.int n] S = ret (.rng 0 n.toNat) S := by
  have : src .range S.M [.int n] = some (.rng 0 n.toNat) := by
    unfold src
    dsimp only
    rw [if_pos]
    rw [Bool.and_eq_true, decide_eq_true_eq, decide_eq_true_eq]
    exact ⟨by omega, by omega⟩
  simp only [srcR, this]
theorem rngs2 {n m : Int} (h1 : -1000000 ≤ n) (h2 : n ≤ 1000000) (h3 : -1000000 ≤ m) (h4 : m ≤ 1000000) (S : HS b) : srcR .range2 [.int n, .int m] S = ret (.rng n (m - n).toNat) S := by
  have : src .range2 S.M [.int n, .int m] = some (.rng n (m - n).toNat) := by
    unfold src
    dsimp only
    rw [if_pos]
    rw [Bool.and_eq_true, Bool.and_eq_true, Bool.and_eq_true, decide_eq_true_eq, decide_eq_true_eq, decide_eq_true_eq, decide_eq_true_eq]
    exact ⟨⟨⟨by omega, by omega⟩, by omega⟩, by omega⟩
  simp only [srcR, this]
theorem so_le {n : Nat} (h : n ≤ 100000) : PV.sizeOk n = true := by
  unfold PV.sizeOk
  rw [sizeLine_eq]
  exact decide_eq_true (by omega)
section
variable {P : Ev} {X : Cur} {e : Env} {s : HS b}
theorem ex_nil : exB P X [] e s = some (.nx e s) := rfl
theorem ex_cons (a : CS) (r : List CS) : exB P X (a :: r) e s = sq (exS P X a e s) fun e1 s1 => exB P X r e1 s1 := rfl
theorem ex_exp (a : CE) : exS P X (.exp a) e s = lft e (evE P X a e s) fun _ s1 => some (.nx e s1) := rfl
theorem ex_ret (a : CE) : exS P X (.ret a) e s = lft e (evE P X a e s) fun d s1 => some (.rt d s1) := rfl
theorem ex_set (i : Nat) (a : CE) : exS P X (.set (.nm i) a) e s = lft e (evE P X a e s) fun d s1 => some (.nx (e.set i (some d)) s1) := rfl
theorem ex_setT (is : List Nat) (a : CE) : exS P X (.set (.tp is) a) e s = lft e (evE P X a e s) fun d s1 => (match (Tg.tp is).bindM s1.M d e with | some e1 => some (.nx e1 s1) | none => none) := rfl
theorem ex_par (is : List Nat) (es : List CE) : exS P X (.par is es) e s = lft e (evL P X es e s) fun ds s1 => (match setAll is ds e with | some e1 => some (.nx e1 s1) | none => none) := rfl
theorem ex_aug (i : Nat) (o : B2) (a : CE) : exS P X (.aug i o a) e s = (match e[i]? with
    | some (some x) => lft e (evE P X a e s) fun y s1 => (match x, y with
      | .int _, .int _ => lft e (bin o x y s1) fun z s2 => some (.nx (e.set i (some z)) s2)
      | _, _ => none)
    | _ => none) := rfl
theorem ex_sub (o i a : CE) : exS P X (.sub o i a) e s = lft e (evE P X a e s) fun v s1 => lft e (evE P X o e s1) fun x s2 => lft e (evE P X i e s2) fun y s3 => (match setItem x y v s3 with
    | some s4 => some (.nx e s4)
    | none => none) := rfl
theorem ex_ite (c : CE) (a d : List CS) : exS P X (.ite c a d) e s = lft e (tst (evE P X c e s)) fun t s1 => if t then exB P X a e s1 else exB P X d e s1 := rfl
theorem ex_for (tg : Tg) (k : ITk) (sr : List CE) (body : List CS) : exS P X (.for_ tg k sr body) e s = lft e (bnd (evL P X sr e s) fun xs s1 => srcR k xs s1) fun r s1 => forL r.at (fun d e1 s2 => (match tg.bind d e1 with
        | none => none
        | some e2 => exB P X body e2 s2)) P.fu 0 e s1 := rfl
theorem ex_while (c : CE) (body : List CS) : exS P X (.while_ c body) e s = whL (fun e1 s1 => tst (evE P X c e1 s1)) (fun e1 s1 => exB P X body e1 s1) P.fu e s := rfl
theorem ex_raise (c : Nat) (es : List CE) : exS P X (.raise c es) e s = lft e (evL P X es e s) fun ds s1 => if decide (ds.length = (P.flds c).length) then some (.ex c ((P.flds c).zip ds) e s1) else none := rfl
theorem ex_pass : exS P X .pass e s = some (.nx e s) := rfl
def WH (P : Ev) (c1 : Nat) (fs : List (Str × D)) (e1 : Env) (s1 : HS b) (N : Env → HS b → Prop) (T : D → HS b → Prop) (E : Nat → List (Str × D) → Env → HS b → Prop) : List CH → Prop
  | [] => E c1 fs e1 s1
  | .mk x (some i) suite :: r => (P.mt c1 x = some true ∧ WS (exB P (some (i, c1, fs)) suite (e1.set i none) s1) (fun e2 s2 => N (e2.set i none) s2) T (fun _ _ _ _ => False)) ∨ (P.mt c1 x = some false ∧ WH P c1 fs e1 s1 N T E r)
  | .mk x none suite :: r => (P.mt c1 x = some true ∧ WS (exB P none suite e1 s1) N T (fun _ _ _ _ => False)) ∨ (P.mt c1 x = some false ∧ WH P c1 fs e1 s1 N T E r)
theorem WS_exH {c1 : Nat} {fs : List (Str × D)} {e1 : Env} {s1 : HS b} {N : Env → HS b → Prop} {T : D → HS b → Prop} {E : Nat → List (Str × D) → Env → HS b → Prop} : ∀ {hs : List CH}, WH P c1 fs e1 s1 N T E hs → WS (exH P c1 fs hs e1 s1) N T E
  | [], h => h
  | .mk x (some i) suite :: r, h => by
    rcases h with ⟨h1, h2⟩ | ⟨h1, h2⟩
    · simp only [exH, h1]
      cases hs : exB P (some (i, c1, fs)) suite (e1.set i none) s1 with
      | none => rw [hs] at h2; exact h2
      | some o =>
        rw [hs] at h2
        cases o with
        | nx e2 s2 => exact h2
        | rt d s2 => exact h2
        | ex c2 fs2 e2 s2 => exact h2.elim
    · simp only [exH, h1]
      exact WS_exH h2
  | .mk x none suite :: r, h => by
    rcases h with ⟨h1, h2⟩ | ⟨h1, h2⟩
    · simp only [exH, h1]
      cases hs : exB P none suite e1 s1 with
      | none => rw [hs] at h2; exact h2
      | some o =>
        rw [hs] at h2
        cases o with
        | nx e2 s2 => exact h2
        | rt d s2 => exact h2
        | ex c2 fs2 e2 s2 => exact h2.elim
    · simp only [exH, h1]
      exact WS_exH h2
theorem WS_try {body : List CS} {hs : List CH} {N : Env → HS b → Prop} {T : D → HS b → Prop} {E : Nat → List (Str × D) → Env → HS b → Prop}
    (h : WS (exB P X body e s) N T (fun c1 fs e1 s1 => WH P c1 fs e1 s1 N T E hs)) : WS (exS P X (.try_ body hs) e s) N T E := by
  have q : exS P X (.try_ body hs) e s = (match exB P X body e s with
    | some (.ex c1 fs e1 s1) => exH P c1 fs hs e1 s1
    | y => y) := rfl
  rw [q]
  cases hb : exB P X body e s with
  | none => rw [hb] at h; exact h
  | some o =>
    rw [hb] at h
    cases o with
    | nx e1 s1 => exact h
    | rt d s1 => exact h
    | ex c1 fs e1 s1 => exact WS_exH h
theorem ev_excf (i : Nat) (f : Str) : evE P X (.excf i f) e s = (match X with
    | some (j, c, fs) => if i = j ∧ f ∈ P.flds c then (match e[i]? with
      | some none => (match fs.lookup f with | some d => ret d s | none => none)
      | _ => none) else none
    | none => none) := rfl
theorem ev_exci (i : Nat) (x : Str) : evE P X (.exci i x) e s = (match X with
    | some (j, c, _) => if i = j then (match e[i]? with
      | some none => if P.isx c x then ret (.bl true) s else none
      | _ => none) else none
    | none => none) := rfl
theorem ev_lc (tg : Tg) (k : ITk) (sr ifs : List CE) (elt : CE) (own : List Nat) : evE P X (.lc tg k sr ifs elt own) e s =
    bnd (bnd (evL P X sr e s) fun xs s1 => srcR k xs s1) fun r s1 => bnd (lcL r.at (turnC P tg ifs elt (wipeE e own)) P.fu 0 [] s1) fun ys s2 => ret (.ref s2.M.length) (s2.alloc (.lst true ys)) := rfl
theorem W_tst {x : R b D} {Q : Bool → HS b → Prop} {E : XW b} : W (tst x) Q E = W x (fun d s => W (match truth s.M d with | some k => ret k s | none => none) Q E) E := W_bnd _
end
theorem cf_ev (p : Pg) (k f : Nat) (xs : List D) (s : HS b) : (p.ev k).cf f xs s = callF p k f xs s := rfl
theorem fu_ev (p : Pg) (k : Nat) : (p.ev k).fu = p.fu := rfl
theorem flds_ev (p : Pg) (k : Nat) : (p.ev k).flds = p.flds := rfl
theorem isx_ev (p : Pg) (k : Nat) : (p.ev k).isx = p.isx := rfl
theorem mt_ev (p : Pg) (k : Nat) : (p.ev k).mt = p.mt := rfl
theorem ar_ev (p : Pg) (k : Nat) : (p.ev k).ar = p.ar := rfl
end PV
set_option Elab.async false
set_option linter.all false
set_option autoImplicit false
set_option maxRecDepth 100000
set_option maxHeartbeats 1000000
namespace PV
open PySem
variable {b : List MO}
mutual
def pdD : D → PyData
  | .non => .none
  | .bl b => .bool b
  | .int i => .int i
  | .str x => .str x
  | .tup xs => .tuple (pdL xs)
  | .ref _ => .none
  | .fn _ => .none
def pdL : List D → List PyData
  | [] => []
  | x :: r => pdD x :: pdL r
end
mutual
theorem deepW_imm (f : Nat → Option PyData) : ∀ d : D, d.imm = true → deepW f d = some (pdD d)
  | .non, _ => rfl
  | .bl _, _ => rfl
  | .int _, _ => rfl
  | .str _, _ => rfl
  | .tup xs, h => by
    have h' : D.immL xs = true := h
    simp only [deepW, deepWL_imm f xs h', Option.map_some, pdD]
  | .ref _, h => by cases h
  | .fn _, h => by cases h
theorem deepWL_imm (f : Nat → Option PyData) : ∀ ds : List D, D.immL ds = true → deepWL f ds = some (pdL ds)
  | [], _ => rfl
  | d :: ds, h => by
    have h' : d.imm = true ∧ D.immL ds = true := by simpa [D.immL] using h
    simp only [deepWL, deepW_imm f d h'.1, deepWL_imm f ds h'.2, pdL]
end
theorem deep_imm (M : List MO) {d : D} (h : d.imm = true) : deep M d = some (pdD d) := deepW_imm _ d h
theorem deep_lst {M : List MO} {p : Nat} {w : Bool} {xs : List D} (h : M[p]? = some (.lst w xs)) (hi : D.immL xs = true) : deep M (.ref p) = some (.list (pdL xs)) := by
  show deepR M 8 p = _
  simp only [deepR, h, deepWL_imm _ xs hi, Option.map_some]
theorem pdL_map (xs : List D) : pdL xs = xs.map pdD := by
  induction xs with
  | nil => rfl
  | cons x xs ih => simp [pdL, ih]
theorem immL_iff {xs : List D} : D.immL xs = true ↔ ∀ x ∈ xs, x.imm = true := by
  induction xs with
  | nil => simp [D.immL]
  | cons x xs ih => simp [D.immL, ih]
def Str.ok (x : Str) : Prop := ∀ c ∈ x.cps.toList, c < 0x110000
theorem ok_strOk {x : Str} : PyData.strOk x = true ↔ Str.ok x := by
  unfold PyData.strOk Str.ok
  rw [← Array.all_toList, List.all_eq_true]
  simp
theorem ok_app {x y : Str} (hx : Str.ok x) (hy : Str.ok y) : Str.ok (x ++ y) := by
  intro c hc
  have : (x ++ y).cps = x.cps ++ y.cps := rfl
  rw [this, Array.toList_append] at hc
  rcases List.mem_append.mp hc with h | h
  · exact hx c h
  · exact hy c h
theorem ok_of (s : String) : Str.ok (s : Str) := by
  intro c hc
  rw [show ((s : Str)) = PySem.Str.ofString s from rfl, PySem.Str.ofString_eq_toList] at hc
  have hc' : c ∈ s.toList.map Char.toNat := hc
  obtain ⟨ch, _, rfl⟩ := List.mem_map.mp hc'
  have := ch.valid
  rcases this with h | h
  · show ch.val.toNat < _
    have : ch.val.toNat < 0xd800 := h
    omega
  · have : ch.val.toNat < 0x110000 := h.2
    exact this
theorem ok_join {sep : Str} (hs : Str.ok sep) : ∀ {ts : List Str}, (∀ t ∈ ts, Str.ok t) → Str.ok (PySem.Str.join sep ts)
  | [], _ => by
    intro c hc
    cases hc
  | [x], h => h x List.mem_cons_self
  | x :: y :: r, h => ok_app (ok_app (h x List.mem_cons_self) hs) (ok_join hs fun t ht => h t (List.mem_cons_of_mem _ ht))
theorem ok_textFrom : ∀ {ts : List Str} {k : Nat} {acc : Str}, Str.ok acc → (∀ t ∈ ts, Str.ok t) → Str.ok (textFrom k acc ts)
  | [], _, _, ha, _ => ha
  | t :: ts, k, acc, ha, h => by
    show Str.ok (textFrom (k + 1) _ ts)
    exact ok_textFrom (ok_app (ok_app ha (ok_of _)) (h t List.mem_cons_self)) fun t ht => h t (List.mem_cons_of_mem _ ht)
theorem dig16 : ∀ {c n : Nat}, c ∈ (Nat.toDigits 16 n).map Char.toNat → c < 0x110000 := by
  intro c n h
  obtain ⟨ch, _, rfl⟩ := List.mem_map.mp h
  rcases ch.valid with h | h
  · have : ch.val.toNat < 0xd800 := h
    show ch.val.toNat < _
    omega
  · exact h.2
theorem ok_reprChar {q c : Nat} (hc : c < 0x110000) : ∀ x ∈ PySem.Builtin.Str.reprChar q c, x < 0x110000 := by
  have hh : ∀ (w x : Nat), x ∈ (List.replicate (w - ((Nat.toDigits 16 c).map Char.toNat).length) 48 ++ (Nat.toDigits 16 c).map Char.toNat) → x < 0x110000 := fun w x h => by
    rcases List.mem_append.mp h with h | h
    · have := (List.mem_replicate.mp h).2
      omega
    · exact dig16 h
  have h2 : ∀ (a d x : Nat), a < 0x110000 → d < 0x110000 → x ∈ [a, d] → x < 0x110000 := fun a d x ha hd h => by
    rcases List.mem_cons.mp h with rfl | h
    · exact ha
    · have := List.mem_singleton.mp h
      omega
  intro x hx
  unfold PySem.Builtin.Str.reprChar at hx
  dsimp only at hx
  repeat' split at hx
  · exact h2 _ _ _ (by decide) hc hx
  · exact h2 _ _ _ (by decide) (by decide) hx
  · exact h2 _ _ _ (by decide) (by decide) hx
  · exact h2 _ _ _ (by decide) (by decide) hx
  · have := List.mem_singleton.mp hx
    omega
  · rcases List.mem_append.mp hx with h | h
    · exact h2 _ _ _ (by decide) (by decide) h
    · exact hh 2 x h
  · rcases List.mem_append.mp hx with h | h
    · exact h2 _ _ _ (by decide) (by decide) h
    · exact hh 4 x h
  · rcases List.mem_append.mp hx with h | h
    · exact h2 _ _ _ (by decide) (by decide) h
    · exact hh 8 x h
theorem ok_fold (q : Nat) : ∀ {l : List Nat} {acc : Array Nat}, (∀ c ∈ l, c < 0x110000) → (∀ c ∈ acc.toList, c < 0x110000) → ∀ c ∈ (l.foldl (fun out c => out ++ (PySem.Builtin.Str.reprChar q c).toArray) acc).toList, c < 0x110000
  | [], acc, _, ha => ha
  | x :: l, acc, h, ha => by
    rw [List.foldl_cons]
    refine ok_fold q (fun c hc => h c (List.mem_cons_of_mem _ hc)) fun c hc => ?_
    rw [Array.toList_append] at hc
    rcases List.mem_append.mp hc with z | z
    · exact ha c z
    · exact ok_reprChar (h x List.mem_cons_self) c (by simpa using z)
theorem q_lt (x : Str) : reprQuote x < 0x110000 := by
  unfold reprQuote
  split <;> decide
theorem ok_repr {x : Str} (h : Str.ok x) : Str.ok (reprText x) := by
  intro c hc
  unfold reprText at hc
  have hc' : c ∈ ((x.cps.foldl (fun out c => out ++ (PySem.Builtin.Str.reprChar (reprQuote x) c).toArray) #[reprQuote x]).push (reprQuote x)).toList := hc
  rw [Array.toList_push, ← Array.foldl_toList] at hc'
  rcases List.mem_append.mp hc' with z | z
  · refine ok_fold _ h (fun c hc => ?_) c z
    have : c = reprQuote x := by simpa using hc
    rw [this]
    exact q_lt x
  · have := List.mem_singleton.mp z
    rw [this]
    exact q_lt x
mutual
theorem shown_ok : ∀ d : PyData, d.canLay0 = true → Str.ok d.shown
  | .none, _ => by rw [PyData.shown]; exact ok_of _
  | .bool b, _ => by
    rw [PyData.shown]
    split <;> exact ok_of _
  | .int i, _ => by rw [PyData.shown]; exact ok_of _
  | .str x, h => by
    rw [PyData.shown]
    exact ok_repr (ok_strOk.mp (by simpa [PyData.canLay0] using h))
  | .list xs, h => by
    rw [PyData.shown]
    exact ok_app (ok_textFrom (ok_of _) (shownAll_ok xs (by simpa [PyData.canLay0] using h))) (ok_of _)
  | .tuple xs, h => by
    rw [PyData.shown]
    exact ok_app (ok_app (ok_of _) (ok_join (ok_of _) (shownAll_ok xs (by simpa [PyData.canLay0] using h)))) (ok_of _)
  | .dict _, h => by simp [PyData.canLay0] at h
theorem shownAll_ok : ∀ ds : List PyData, PyData.canLayAll0 ds = true → ∀ t ∈ PyData.shownAll ds, Str.ok t
  | [], _, t, ht => by simp [PyData.shownAll] at ht
  | d :: ds, h, t, ht => by
    have h' : d.canLay0 = true ∧ PyData.canLayAll0 ds = true := by simpa [PyData.canLayAll0] using h
    rw [PyData.shownAll] at ht
    rcases List.mem_cons.mp ht with rfl | ht
    · exact shown_ok d h'.1
    · exact shownAll_ok ds h'.2 t ht
end
structure Pl (n : Nat) (d : PyData) : Prop where
  lay : d.canLay0 = true
  dep : d.depth ≤ n
theorem Pl.shaped {n : Nat} {d : PyData} (h : Pl n d) (hn : n ≤ 64) : SeqAt.shaped d = true := by
  simp [SeqAt.shaped, h.lay]
  exact Nat.le_trans h.dep hn
theorem eqD_of {M : List MO} {x y : D} {a c : PyData} {n m : Nat} (h1 : deep M x = some a) (h2 : deep M y = some c) (p1 : Pl n a) (p2 : Pl m c) (hn : n ≤ 64) (hm : m ≤ 64) : eqD M x y = some (PyData.eqv a c) := by
  simp only [eqD, h1, h2, p1.shaped hn, p2.shaped hm, Bool.and_self, if_true]
theorem eqD_self {M : List MO} {x y : D} {a : PyData} {n : Nat} (h1 : deep M x = some a) (h2 : deep M y = some a) (p1 : Pl n a) (hn : n ≤ 64) : eqD M x y = some true := by
  rw [eqD_of h1 h2 p1 p1 hn hn, SeqAt.eqv_refl a p1.lay]
theorem repr_of {x : D} {s : HS b} {d : PyData} (h1 : deep s.M x = some d) (h2 : d.showable = true) (h3 : d.shown.length ≤ 16000000) (h4 : d.depth ≤ 64) : PV.call .repr [x] s = ret (.str d.shown) s := by
  have h5 : PV.sizeOk d.shown.length = true := by
    unfold PV.sizeOk
    rw [sizeLine_eq]
    exact decide_eq_true (by omega)
  simp only [PV.call, h1, h2, h5, h4, decide_true, Bool.and_self, if_true]
structure Sm (d : PyData) : Prop where
  lay : d.canLay0 = true
  sh : d.showable = true
  lv : d.leavesShort 64 = true
  wt : d.weight ≤ 200000
  dep : d.depth ≤ 8
theorem Sm.len {d : PyData} (h : Sm d) : d.shown.length ≤ 16000000 := by
  have := PyData.shown_le 64 (by decide) d h.lv
  have := h.wt
  omega
theorem Sm.repr {x : D} {s : HS b} {d : PyData} (h : Sm d) (h1 : deep s.M x = some d) : PV.call .repr [x] s = ret (.str d.shown) s := repr_of h1 h.sh h.len (Nat.le_trans h.dep (by decide))
theorem Sm.pl {d : PyData} (h : Sm d) : Pl 8 d := ⟨h.lay, h.dep⟩
theorem Sm.str {d : PyData} (h : Sm d) : Pl 1 (.str d.shown) := ⟨by simpa [PyData.canLay0] using ok_strOk.mpr (shown_ok d h.lay), by simp [PyData.depth]⟩
end PV
set_option Elab.async false
set_option linter.all false
set_option autoImplicit false
set_option maxRecDepth 100000
set_option maxHeartbeats 1000000
namespace PV
open PySem
variable {b : List MO} {α β : Type} {P : Ev} {X : Cur} {e : Env} {s : HS b} {E : XW b}
def TT (M : List MO) (x : D) (K : Bool → Prop) : Prop := ∃ t, truth M x = some t ∧ K t
section
variable {Q : D → HS b → Prop} {K : Bool → Prop} {M : List MO}
theorem tt_bl {t : Bool} (h : K t) : TT M (.bl t) K := ⟨t, rfl, h⟩
theorem tt_int {i : Int} (h : K (i != 0)) : TT M (.int i) K := ⟨_, rfl, h⟩
theorem tt_tup {xs : List D} (h : K (!xs.isEmpty)) : TT M (.tup xs) K := ⟨_, rfl, h⟩
theorem tt_non (h : K false) : TT M .non K := ⟨_, rfl, h⟩
theorem tt_ref {p : Nat} {w : Bool} {xs : List D} (hm : M[p]? = some (.lst w xs)) (h : K (!xs.isEmpty)) : TT M (.ref p) K := ⟨_, by simp [truth, hm], h⟩
theorem w_ret {a : α} {Q : α → HS b → Prop} (h : Q a s) : W (ret a s) Q E := h
theorem w_cst {d : D} (h : Q d s) : W (evE P X (.cst d) e s) Q E := h
theorem w_var {i : Nat} {d : D} (hi : e[i]? = some (some d)) (h : Q d s) : W (evE P X (.var i) e s) Q E := by
  rw [ev_var, hi]
  exact h
theorem w_glb {x : Str} {i : Int} (h : Q (.int i) s) : W (evE P X (.glb x i) e s) Q E := h
theorem w_bin {o : B2} {a c : CE} (h : W (evE P X a e s) (fun x s1 => W (evE P X c e s1) (fun y s2 => W (bin o x y s2) Q E) E) E) : W (evE P X (.bin o a c) e s) Q E := by
  rw [ev_bin, W_bnd]
  simpa only [W_bnd] using h
theorem w_neg {a : CE} (h : W (evE P X a e s) (fun x s1 => ∃ i, x = .int i ∧ Q (.int (-i)) s1) E) : W (evE P X (.neg a) e s) Q E := by
  rw [ev_neg, W_bnd]
  exact h.mono (fun x s1 ⟨i, z, q⟩ => by subst z; exact q) fun _ _ _ z => z
theorem w_cmp {o : C2} {a c : CE} (h : W (evE P X a e s) (fun x s1 => W (evE P X c e s1) (fun y s2 => W (cmp o x y s2) Q E) E) E) : W (evE P X (.cmp o a c) e s) Q E := by
  rw [ev_cmp, W_bnd]
  simpa only [W_bnd] using h
theorem w_chn {o o2 : C2} {a c d : CE} (h : W (evE P X a e s) (fun x s1 => W (evE P X c e s1) (fun y s2 => W (cmp o x y s2) (fun z s3 => ∃ t, z = .bl t ∧ ((t = true → W (evE P X d e s3) (fun w s4 => W (cmp o2 y w s4) Q E) E) ∧ (t = false → Q (.bl false) s3))) E) E) E) : W (evE P X (.chn o o2 a c d) e s) Q E := by
  rw [ev_chn, W_bnd]
  refine h.mono (fun x s1 h => ?_) fun _ _ _ z => z
  rw [W_bnd]
  refine h.mono (fun y s2 h => ?_) fun _ _ _ z => z
  rw [W_bnd]
  refine h.mono (fun z s3 h => ?_) fun _ _ _ z => z
  obtain ⟨t, rfl, h1, h2⟩ := h
  cases t with
  | true =>
    simp only [W_bnd]
    exact h1 rfl
  | false => exact h2 rfl
theorem w_ands {es : List CE} (h : W (evAnd P X es e s) Q E) : W (evE P X (.ands es) e s) Q E := h
theorem w_ors {es : List CE} (h : W (evOr P X es e s) Q E) : W (evE P X (.ors es) e s) Q E := h
theorem w_and1 {a : CE} (h : W (evE P X a e s) Q E) : W (evAnd P X [a] e s) Q E := by
  rw [ev_and1, W_bnd]
  exact h
theorem w_or1 {a : CE} (h : W (evE P X a e s) Q E) : W (evOr P X [a] e s) Q E := by
  rw [ev_or1, W_bnd]
  exact h
theorem w_and2 {a c : CE} {r : List CE} (h : W (evE P X a e s) (fun x s1 => TT s1.M x fun t => (t = true → W (evAnd P X (c :: r) e s1) Q E) ∧ (t = false → Q x s1)) E) : W (evAnd P X (a :: c :: r) e s) Q E := by
  rw [ev_and2, W_bnd]
  refine h.mono (fun x s1 ⟨t, ht, h1, h2⟩ => ?_) fun _ _ _ z => z
  rw [ht]
  cases t with
  | true => exact h1 rfl
  | false => exact h2 rfl
theorem w_or2 {a c : CE} {r : List CE} (h : W (evE P X a e s) (fun x s1 => TT s1.M x fun t => (t = true → Q x s1) ∧ (t = false → W (evOr P X (c :: r) e s1) Q E)) E) : W (evOr P X (a :: c :: r) e s) Q E := by
  rw [ev_or2, W_bnd]
  refine h.mono (fun x s1 ⟨t, ht, h1, h2⟩ => ?_) fun _ _ _ z => z
  rw [ht]
  cases t with
  | true => exact h1 rfl
  | false => exact h2 rfl
theorem w_nt {a : CE} (h : W (evE P X a e s) (fun x s1 => TT s1.M x fun t => Q (.bl (!t)) s1) E) : W (evE P X (.nt a) e s) Q E := by
  rw [ev_nt, W_bnd]
  refine h.mono (fun x s1 ⟨t, ht, q⟩ => ?_) fun _ _ _ z => z
  rw [ht]
  exact q
theorem w_ite {c a d : CE} (h : W (evE P X c e s) (fun x s1 => TT s1.M x fun t => (t = true → W (evE P X a e s1) Q E) ∧ (t = false → W (evE P X d e s1) Q E)) E) : W (evE P X (.ite c a d) e s) Q E := by
  rw [ev_ite, W_bnd]
  refine h.mono (fun x s1 ⟨t, ht, h1, h2⟩ => ?_) fun _ _ _ z => z
  rw [ht]
  cases t with
  | true => exact h1 rfl
  | false => exact h2 rfl
theorem w_tup {es : List CE} (h : W (evL P X es e s) (fun xs s1 => sizeOk xs.length = true ∧ Q (.tup xs) s1) E) : W (evE P X (.tup es) e s) Q E := by
  rw [ev_tup, W_bnd]
  refine h.mono (fun xs s1 ⟨h1, q⟩ => ?_) fun _ _ _ z => z
  rw [if_pos h1]
  exact q
theorem w_lst {es : List CE} (h : W (evL P X es e s) (fun xs s1 => sizeOk xs.length = true ∧ Q (.ref s1.M.length) (s1.alloc (.lst true xs))) E) : W (evE P X (.lst es) e s) Q E := by
  rw [ev_lst, W_bnd]
  refine h.mono (fun xs s1 ⟨h1, q⟩ => ?_) fun _ _ _ z => z
  rw [if_pos h1]
  exact q
theorem w_dct0 (h : Q (.ref s.M.length) (s.alloc (.dct 0 []))) : W (evE P X .dct0 e s) Q E := h
theorem w_call {f : Nat} {es : List CE} (h : W (evL P X es e s) (fun xs s1 => W (P.cf f xs s1) Q E) E) : W (evE P X (.call f es) e s) Q E := by
  rw [ev_call, W_bnd]
  exact h
theorem w_bi {g : BI} {es : List CE} (h : W (evL P X es e s) (fun xs s1 => W (PV.call g xs s1) Q E) E) : W (evE P X (.bi g es) e s) Q E := by
  rw [ev_bi, W_bnd]
  exact h
theorem w_callk {f : Nat} {es kes : List CE} {ks : List Str} {a : ArI} (ha : P.ar f = some a) (h : W (evL P X es e s) (fun xs s1 => W (evL P X kes e s1) (fun ys s2 => ∃ zs, arr a xs ks ys = some zs ∧ W (P.cf f zs s2) Q E) E) E) : W (evE P X (.callk f es ks kes) e s) Q E := by
  rw [ev_callk, ha]
  dsimp only
  rw [W_bnd]
  refine h.mono (fun xs s1 h => ?_) fun _ _ _ z => z
  rw [W_bnd]
  refine h.mono (fun ys s2 ⟨zs, hz, h⟩ => ?_) fun _ _ _ z => z
  rw [hz]
  exact h
theorem w_mt {m : MT} {o : CE} {es : List CE} (h : W (evE P X o e s) (fun x s1 => mtOk m s1.M x = true ∧ W (evL P X es e s1) (fun xs s2 => W (meth m x xs s2) Q E) E) E) : W (evE P X (.mt m o es) e s) Q E := by
  rw [ev_mt, W_bnd]
  refine h.mono (fun x s1 ⟨h1, h2⟩ => ?_) fun _ _ _ z => z
  rw [if_pos h1, W_bnd]
  exact h2
theorem w_app {p : Nat} {ys : List D} {v : D} (hp : s.M[p]? = some (.lst true ys)) (hz : sizeOk (ys.length + 1) = true) (h : Q .non (s.set p (.lst true (ys ++ [v])))) : W (meth .append (.ref p) [v] s) Q E := by
  simp only [meth, hp, hz, if_true]
  exact h
theorem mt_app {M : List MO} {p : Nat} {ys : List D} (hp : M[p]? = some (.lst true ys)) : mtOk .append M (.ref p) = true := by
  simp only [mtOk, hp]
theorem w_idx {a c : CE} (h : W (evE P X a e s) (fun x s1 => W (evE P X c e s1) (fun y s2 => W (index x y s2) Q E) E) E) : W (evE P X (.idx a c) e s) Q E := by
  rw [ev_idx, W_bnd]
  simpa only [W_bnd] using h
theorem w_slc {a : CE} {lo hi : Option CE} (h : W (evE P X a e s) (fun x s1 => W (evO P X lo e s1) (fun l s2 => W (evO P X hi e s2) (fun h s3 => W (slice x l h s3) Q E) E) E) E) : W (evE P X (.slc a lo hi) e s) Q E := by
  rw [ev_slc, W_bnd]
  simpa only [W_bnd] using h
theorem w_o0 {Q : Option Int → HS b → Prop} (h : Q none s) : W (evO P X none e s) Q E := h
theorem w_o1 {a : CE} {Q : Option Int → HS b → Prop} (h : W (evE P X a e s) (fun x s1 => ∃ i, x = .int i ∧ Q (some i) s1) E) : W (evO P X (some a) e s) Q E := by
  rw [show evO P X (some a) e s = bnd (evE P X a e s) fun x s1 => (match x with
    | .int i => ret (some i) s1
    | _ => none) from rfl, W_bnd]
  exact h.mono (fun x s1 ⟨i, z, q⟩ => by subst z; exact q) fun _ _ _ z => z
theorem w_nil {Q : List D → HS b → Prop} (h : Q [] s) : W (evL P X [] e s) Q E := h
theorem w_cons {a : CE} {r : List CE} {Q : List D → HS b → Prop} (h : W (evE P X a e s) (fun x s1 => W (evL P X r e s1) (fun xs s2 => Q (x :: xs) s2) E) E) : W (evL P X (a :: r) e s) Q E := by
  rw [ev_cons, W_bnd]
  simpa only [W_bnd, W_ret] using h
theorem w_if0 {Q : Bool → HS b → Prop} (h : Q true s) : W (evIf P X [] e s) Q E := h
theorem w_if1 {c : CE} {Q : Bool → HS b → Prop} (h : W (evE P X c e s) (fun x s1 => TT s1.M x fun t => Q t s1) E) : W (evIf P X [c] e s) Q E := by
  rw [ev_if1, W_bnd]
  refine h.mono (fun x s1 ⟨t, ht, q⟩ => ?_) fun _ _ _ z => z
  rw [ht]
  exact q
theorem w_lc {tg : Tg} {k : ITk} {sr ifs : List CE} {elt : CE} {own : List Nat} (h : W (evL P X sr e s) (fun xs s1 => W (srcR k xs s1) (fun r s2 => W (lcL r.at (turnC P tg ifs elt (wipeE e own)) P.fu 0 [] s2) (fun ys s3 => Q (.ref s3.M.length) (s3.alloc (.lst true ys))) E) E) E) : W (evE P X (.lc tg k sr ifs elt own) e s) Q E := by
  rw [ev_lc, W_bnd, W_bnd]
  simpa only [W_bnd, W_ret] using h
theorem w_turn {tg : Tg} {ifs : List CE} {elt : CE} {d : D} {e1 : Env} {Q : Option D → HS b → Prop} (hb : tg.bind d e = some e1) (h : W (evIf P none ifs e1 s) (fun t s1 => (t = true → W (evE P none elt e1 s1) (fun y s2 => Q (some y) s2) X0) ∧ (t = false → Q none s1)) X0) : W (turnC P tg ifs elt e d s) Q E := by
  unfold turnC
  refine W_noX ?_
  simp only [hb]
  rw [W_bnd]
  refine h.mono (fun t s1 ⟨h1, h2⟩ => ?_) fun _ _ _ z => z
  cases t with
  | true =>
    simp only [if_true, W_bnd, W_ret]
    exact h1 rfl
  | false => exact h2 rfl
theorem w_excf {i c : Nat} {fs : List (Str × D)} {f : Str} {d : D} (h1 : f ∈ P.flds c) (h2 : e[i]? = some none) (h3 : fs.lookup f = some d) (h : Q d s) : W (evE P (some (i, c, fs)) (.excf i f) e s) Q E := by
  simp only [ev_excf, h1, h2, h3, and_self, if_true]
  exact h
theorem w_exci {i c : Nat} {fs : List (Str × D)} {x : Str} (h1 : P.isx c x = true) (h2 : e[i]? = some none) (h : Q (.bl true) s) : W (evE P (some (i, c, fs)) (.exci i x) e s) Q E := by
  simp only [ev_exci, h1, h2, if_true]
  exact h
section
variable {i j : Int}
theorem w_lt (h : Q (.bl (decide (i < j))) s) : W (cmp .lt (.int i) (.int j) s) Q E := h
theorem w_le (h : Q (.bl (decide (i ≤ j))) s) : W (cmp .le (.int i) (.int j) s) Q E := h
theorem w_gt (h : Q (.bl (decide (j < i))) s) : W (cmp .gt (.int i) (.int j) s) Q E := h
theorem w_ge (h : Q (.bl (decide (j ≤ i))) s) : W (cmp .ge (.int i) (.int j) s) Q E := h
theorem w_eqi (h : Q (.bl (i == j)) s) : W (cmp .eq (.int i) (.int j) s) Q E := h
theorem w_nei (h : Q (.bl (!(i == j))) s) : W (cmp .ne (.int i) (.int j) s) Q E := h
theorem w_eqD {x y : D} {t : Bool} (hq : eqD s.M x y = some t) (h : Q (.bl t) s) : W (cmp .eq x y s) Q E := by
  simp only [cmp, hq]
  exact h
theorem w_neD {x y : D} {t : Bool} (hq : eqD s.M x y = some t) (h : Q (.bl (!t)) s) : W (cmp .ne x y s) Q E := by
  simp only [cmp, hq]
  exact h
theorem w_isb {x y : Bool} (h : Q (.bl (decide (x = y))) s) : W (cmp .is (.bl x) (.bl y) s) Q E := h
theorem w_isnb {x y : Bool} (h : Q (.bl (!decide (x = y))) s) : W (cmp .isn (.bl x) (.bl y) s) Q E := h
theorem w_add (h : Q (.int (i + j)) s) : W (bin .add (.int i) (.int j) s) Q E := h
theorem w_sub (h : Q (.int (i - j)) s) : W (bin .sub (.int i) (.int j) s) Q E := h
theorem w_mul (hm : mulOk i j = true) (h : Q (.int (i * j)) s) : W (bin .mul (.int i) (.int j) s) Q E := by
  rw [bin_mul hm]
  exact h
theorem w_mod (hm : j ≠ 0) (h : Q (.int (i.fmod j)) s) : W (bin .mod (.int i) (.int j) s) Q E := by
  rw [bin_mod hm]
  exact h
theorem w_fdiv (hm : divOk j = true) (h : Q (.int (i.fdiv j)) s) : W (bin .fdiv (.int i) (.int j) s) Q E := by
  rw [bin_fdiv hm]
  exact h
theorem w_addT {xs ys : List D} (hz : sizeOk (xs.length + ys.length) = true) (h : Q (.tup (xs ++ ys)) s) : W (bin .add (.tup xs) (.tup ys) s) Q E := by
  simp only [bin, hz, if_true]
  exact h
theorem w_addL {p q : Nat} {xs ys : List D} (hp : s.M[p]? = some (.lst true xs)) (hq : s.M[q]? = some (.lst true ys)) (hz : sizeOk (xs.length + ys.length) = true) (h : Q (.ref s.M.length) (s.alloc (.lst true (xs ++ ys)))) : W (bin .add (.ref p) (.ref q) s) Q E := by
  simp only [bin, hp, hq, hz, if_true]
  exact h
theorem w_ixr {p : Nat} {w : Bool} {xs : List D} {d : D} (h1 : s.M[p]? = some (.lst w xs)) (h2 : L2.atI xs i = some d) (h : Q d s) : W (index (.ref p) (.int i) s) Q E := by
  rw [index_ref h1 h2]
  exact h
theorem w_ixt {xs : List D} {d : D} (h2 : L2.atI xs i = some d) (h : Q d s) : W (index (.tup xs) (.int i) s) Q E := by
  rw [index_tup h2]
  exact h
theorem w_slT {xs : List D} {lo hi : Option Int} (h : Q (.tup (cutD xs lo hi)) s) : W (slice (.tup xs) lo hi s) Q E := h
theorem w_slL {p : Nat} {w : Bool} {xs : List D} {lo hi : Option Int} (hp : s.M[p]? = some (.lst w xs)) (h : Q (.ref s.M.length) (s.alloc (.lst true (cutD xs lo hi)))) : W (slice (.ref p) lo hi s) Q E := by
  simp only [slice, hp]
  exact h
end
theorem w_len {x : D} {ys : List D} (hi : items s.M x = some ys) (h : Q (.int ys.length) s) : W (PV.call .len [x] s) Q E := by
  simp only [PV.call, hi]
  exact h
theorem w_sum {x : D} {ys : List D} {ns : List Int} (hi : items s.M x = some ys) (hn : asInts ys = some ns) (h : Q (.int ns.sum) s) : W (PV.call .sum [x] s) Q E := by
  simp only [PV.call, hi, hn]
  exact h
theorem w_tuple {x : D} {ys : List D} (hi : items s.M x = some ys) (h : Q (.tup ys) s) : W (PV.call .tuple [x] s) Q E := by
  simp only [PV.call, hi]
  exact h
theorem w_list {x : D} {ys : List D} (hi : items s.M x = some ys) (h : Q (.ref s.M.length) (s.alloc (.lst true ys))) : W (PV.call .list [x] s) Q E := by
  simp only [PV.call, hi]
  exact h
theorem w_all {p : Nat} {w : Bool} {ys : List D} {bs : List Bool} (hp : s.M[p]? = some (.lst w ys)) (hn : asBools ys = some bs) (h : Q (.bl (bs.all id)) s) : W (PV.call .all [.ref p] s) Q E := by
  simp only [PV.call, hp, hn]
  exact h
theorem w_any {p : Nat} {w : Bool} {ys : List D} {bs : List Bool} (hp : s.M[p]? = some (.lst w ys)) (hn : asBools ys = some bs) (h : Q (.bl (bs.any id)) s) : W (PV.call .any [.ref p] s) Q E := by
  simp only [PV.call, hp, hn]
  exact h
theorem w_isi {t : TyC} {x : D} {k : Bool} (hi : isTy s.M t x = some k) (h : Q (.bl k) s) : W (PV.call (.isi t) [x] s) Q E := by
  simp only [PV.call, hi]
  exact h
theorem w_max {i j : Int} (h : Q (.int (if j > i then j else i)) s) : W (PV.call .max2 [.int i, .int j] s) Q E := h
theorem w_min {i j : Int} (h : Q (.int (if j < i then j else i)) s) : W (PV.call .min2 [.int i, .int j] s) Q E := h
theorem w_intb {t : Bool} (h : Q (.int (if t then 1 else 0)) s) : W (PV.call .int [.bl t] s) Q E := h
theorem w_inti {i : Int} (h : Q (.int i) s) : W (PV.call .int [.int i] s) Q E := h
theorem w_abs {i : Int} (h : Q (.int (if i < 0 then -i else i)) s) : W (PV.call .abs [.int i] s) Q E := h
theorem w_repr {x : D} {d : PyData} (hd : deep s.M x = some d) (hm : Sm d) (h : Q (.str d.shown) s) : W (PV.call .repr [x] s) Q E := by
  rw [hm.repr hd]
  exact h
theorem w_reprB {t : Bool} (h : Q (.str (if t then "True" else "False")) s) : W (PV.call .repr [.bl t] s) Q E := by
  have e : PV.call .repr [.bl t] s = ret (.str (PyData.bool t).shown) s := repr_of (d := .bool t) rfl rfl (by cases t <;> decide) (by cases t <;> decide)
  rw [e]
  rw [PyData.shown]
  exact h
end
section
variable {N : Env → HS b → Prop} {T : D → HS b → Prop} {EE : Nat → List (Str × D) → Env → HS b → Prop}
theorem z_nil (h : N e s) : WS (exB P X [] e s) N T EE := h
theorem z_cons {a : CS} {r : List CS} (h : WS (exS P X a e s) (fun e1 s1 => WS (exB P X r e1 s1) N T EE) T EE) : WS (exB P X (a :: r) e s) N T EE := by
  rw [ex_cons, WS_sq]
  exact h
theorem z_exp {a : CE} (h : W (evE P X a e s) (fun _ s1 => N e s1) (fun c fs s1 => EE c fs e s1)) : WS (exS P X (.exp a) e s) N T EE := by
  rw [ex_exp, WS_lft]
  exact h
theorem z_ret {a : CE} (h : W (evE P X a e s) T (fun c fs s1 => EE c fs e s1)) : WS (exS P X (.ret a) e s) N T EE := by
  rw [ex_ret, WS_lft]
  exact h
theorem z_set {i : Nat} {a : CE} (h : W (evE P X a e s) (fun d s1 => N (e.set i (some d)) s1) (fun c fs s1 => EE c fs e s1)) : WS (exS P X (.set (.nm i) a) e s) N T EE := by
  rw [ex_set, WS_lft]
  exact h
theorem z_setT {is : List Nat} {a : CE} (h : W (evE P X a e s) (fun d s1 => ∃ e1, (Tg.tp is).bindM s1.M d e = some e1 ∧ N e1 s1) (fun c fs s1 => EE c fs e s1)) : WS (exS P X (.set (.tp is) a) e s) N T EE := by
  rw [ex_setT, WS_lft]
  exact h.mono (fun d s1 ⟨e1, z, q⟩ => by rw [z]; exact q) fun _ _ _ z => z
theorem z_par {is : List Nat} {es : List CE} (h : W (evL P X es e s) (fun ds s1 => ∃ e1, setAll is ds e = some e1 ∧ N e1 s1) (fun c fs s1 => EE c fs e s1)) : WS (exS P X (.par is es) e s) N T EE := by
  rw [ex_par, WS_lft]
  exact h.mono (fun d s1 ⟨e1, z, q⟩ => by rw [z]; exact q) fun _ _ _ z => z
theorem z_aug {i : Nat} {o : B2} {a : CE} {x : Int} (hx : e[i]? = some (some (.int x))) (h : W (evE P X a e s) (fun y s1 => ∃ j, y = .int j ∧ W (bin o (.int x) (.int j) s1) (fun z s2 => N (e.set i (some z)) s2) (fun c fs s1 => EE c fs e s1)) (fun c fs s1 => EE c fs e s1)) : WS (exS P X (.aug i o a) e s) N T EE := by
  rw [ex_aug, hx]
  dsimp only
  rw [WS_lft]
  refine h.mono (fun y s1 ⟨j, z, q⟩ => ?_) fun _ _ _ z => z
  subst z
  dsimp only
  rw [WS_lft]
  exact q
theorem z_sub {o i a : CE} (h : W (evE P X a e s) (fun v s1 => W (evE P X o e s1) (fun x s2 => W (evE P X i e s2) (fun y s3 => ∃ s4, setItem x y v s3 = some s4 ∧ N e s4) (fun c fs s1 => EE c fs e s1)) (fun c fs s1 => EE c fs e s1)) (fun c fs s1 => EE c fs e s1)) : WS (exS P X (.sub o i a) e s) N T EE := by
  rw [ex_sub, WS_lft]
  refine h.mono (fun v s1 h => ?_) fun _ _ _ z => z
  rw [WS_lft]
  refine h.mono (fun x s2 h => ?_) fun _ _ _ z => z
  rw [WS_lft]
  refine h.mono (fun y s3 ⟨s4, z, q⟩ => ?_) fun _ _ _ z => z
  rw [z]
  exact q
theorem z_ite {c : CE} {a d : List CS} (h : W (evE P X c e s) (fun x s1 => TT s1.M x fun t => (t = true → WS (exB P X a e s1) N T EE) ∧ (t = false → WS (exB P X d e s1) N T EE)) (fun c fs s1 => EE c fs e s1)) : WS (exS P X (.ite c a d) e s) N T EE := by
  rw [ex_ite, WS_lft, W_tst]
  refine h.mono (fun x s1 ⟨t, ht, h1, h2⟩ => ?_) fun _ _ _ z => z
  rw [ht]
  cases t with
  | true => exact h1 rfl
  | false => exact h2 rfl
theorem z_for {tg : Tg} {k : ITk} {sr : List CE} {body : List CS} (h : W (evL P X sr e s) (fun xs s1 => W (srcR k xs s1) (fun r s2 => WS (forL r.at (fun d e1 s2 => (match tg.bind d e1 with
        | none => none
        | some e2 => exB P X body e2 s2)) P.fu 0 e s2) N T EE) (fun c fs s1 => EE c fs e s1)) (fun c fs s1 => EE c fs e s1)) : WS (exS P X (.for_ tg k sr body) e s) N T EE := by
  rw [ex_for, WS_lft, W_bnd]
  exact h
theorem z_turn {tg : Tg} {body : List CS} {d : D} {e1 : Env} (hb : tg.bind d e = some e1) (h : WS (exB P X body e1 s) N T EE) : WS (match tg.bind d e with
        | none => none
        | some e2 => exB P X body e2 s) N T EE := by
  rw [hb]
  exact h
theorem z_raise {c : Nat} {es : List CE} (h : W (evL P X es e s) (fun ds s1 => ds.length = (P.flds c).length ∧ EE c ((P.flds c).zip ds) e s1) (fun c fs s1 => EE c fs e s1)) : WS (exS P X (.raise c es) e s) N T EE := by
  rw [ex_raise, WS_lft]
  refine h.mono (fun ds s1 ⟨h1, q⟩ => ?_) fun _ _ _ z => z
  rw [if_pos (decide_eq_true h1)]
  exact q
theorem z_pass (h : N e s) : WS (exS P X .pass e s) N T EE := h
theorem z_its {xs : List D} {turn : D → Env → HS b → Option (SR b)} {fu : Nat} (I : Nat → Env → HS b → Prop) (h0 : I 0 e s) (hf : xs.length < fu) (hs : ∀ i d e1 s1, xs[i]? = some d → I i e1 s1 → WS (turn d e1 s1) (I (i + 1)) T EE) (hn : ∀ e1 s1, I xs.length e1 s1 → N e1 s1) : WS (forL (Src.its xs).at turn fu 0 e s) N T EE := by
  refine forL_W xs.length (fun i e s => i ≤ xs.length ∧ I i e s) (fun i e1 s1 ⟨hi, h⟩ => ⟨hi, ?_⟩) fu 0 e s hf ⟨Nat.zero_le _, h0⟩
  by_cases hl : i < xs.length
  · refine .inr ⟨hl, xs[i], by simp [Src.at, hl], (hs i _ e1 s1 (by simp [hl]) h).mono (fun e2 s2 z => ⟨hl, z⟩) (fun _ _ z => z) fun _ _ _ _ z => z⟩
  · have : i = xs.length := by omega
    subst this
    exact .inl ⟨by simp [Src.at], hn e1 s1 h⟩
theorem z_rng {lo : Int} {m : Nat} {turn : D → Env → HS b → Option (SR b)} {fu : Nat} (I : Nat → Env → HS b → Prop) (h0 : I 0 e s) (hf : m < fu) (hs : ∀ i e1 s1, i < m → I i e1 s1 → WS (turn (.int (lo + i)) e1 s1) (I (i + 1)) T EE) (hn : ∀ e1 s1, I m e1 s1 → N e1 s1) : WS (forL (Src.rng lo m).at turn fu 0 e s) N T EE := by
  refine forL_W m (fun i e s => i ≤ m ∧ I i e s) (fun i e1 s1 ⟨hi, h⟩ => ⟨hi, ?_⟩) fu 0 e s hf ⟨Nat.zero_le _, h0⟩
  by_cases hl : i < m
  · exact .inr ⟨hl, .int (lo + i), by simp [Src.at, hl], (hs i e1 s1 hl h).mono (fun e2 s2 z => ⟨hl, z⟩) (fun _ _ z => z) fun _ _ _ _ z => z⟩
  · have : i = m := by omega
    subst this
    exact .inl ⟨by simp [Src.at], hn e1 s1 h⟩
theorem z_live {p : Nat} {xs : List D} {turn : D → Env → HS b → Option (SR b)} {fu : Nat} (I : Nat → Env → HS b → Prop) (h0 : I 0 e s) (hf : xs.length < fu) (hl : ∀ i e1 s1, I i e1 s1 → ∃ w, s1.M[p]? = some (.lst w xs)) (hs : ∀ i d e1 s1, xs[i]? = some d → I i e1 s1 → WS (turn d e1 s1) (I (i + 1)) T EE) (hn : ∀ e1 s1, I xs.length e1 s1 → N e1 s1) : WS (forL (Src.live p).at turn fu 0 e s) N T EE := by
  refine forL_W xs.length (fun i e s => i ≤ xs.length ∧ I i e s) (fun i e1 s1 ⟨hi, h⟩ => ⟨hi, ?_⟩) fu 0 e s hf ⟨Nat.zero_le _, h0⟩
  obtain ⟨w, hm⟩ := hl i e1 s1 h
  by_cases hl : i < xs.length
  · refine .inr ⟨hl, xs[i], by simp [Src.at, hm, hl], (hs i _ e1 s1 (by simp [hl]) h).mono (fun e2 s2 z => ⟨hl, z⟩) (fun _ _ z => z) fun _ _ _ _ z => z⟩
  · have : i = xs.length := by omega
    subst this
    exact .inl ⟨by simp [Src.at, hm], hn e1 s1 h⟩
end
section
variable {p : Pg} {k f : Nat} {xs : List D} {Q : D → HS b → Prop}
theorem w_cf (h : W (callF p k f xs s) Q E) : W ((p.ev k).cf f xs s) Q E := h
theorem w_eq {x y : R b α} {Q : α → HS b → Prop} (h : x = y) (q : W y Q E) : W x Q E := h ▸ q
theorem w_is {x : R b α} {a : α} {s' : HS b} {Q : α → HS b → Prop} (h : x = ret a s') (q : Q a s') : W x Q E := by rw [h]; exact q
theorem w_raises {x : R b α} {c : Nat} {fs : List (Str × D)} {s' : HS b} {Q : α → HS b → Prop} (h : x = some (.ex c fs s')) (q : E c fs s') : W x Q E := by rw [h]; exact q
theorem f_imm {s1 : HS s.M} {d : D} (h1 : s1.lo = s.M.length) (h2 : d.imm = true) (h : Q d s) : W (fin s d s1) Q E := by
  rw [fin_imm h1 h2]
  exact h
theorem f_lst {s1 : HS s.M} {i : Nat} {ys : List D} (h1 : s1.lo = s.M.length) (h2 : s.M.length ≤ i) (h3 : s1.M[i]? = some (.lst true ys)) (h4 : D.immL ys = true) (h : Q (.ref s.M.length) (s.alloc (.lst true ys))) : W (fin s (.ref i) s1) Q E := by
  rw [fin_lst h1 h2 h3 h4]
  exact h
theorem f_keep {s1 : HS s.M} {d : D} (h1 : s1.lo ≠ s.M.length) (h : Q d (s.back s1)) : W (fin s d s1) Q E := by
  rw [fin_keep h1]
  exact h
end
section
variable {Q : D → HS b → Prop}
theorem w_lenT {ys : List D} (h : Q (.int ys.length) s) : W (PV.call .len [.tup ys] s) Q E := h
theorem w_listT {ys : List D} (h : Q (.ref s.M.length) (s.alloc (.lst true ys))) : W (PV.call .list [.tup ys] s) Q E := h
theorem w_tupleT {ys : List D} (h : Q (.tup ys) s) : W (PV.call .tuple [.tup ys] s) Q E := h
end
theorem w_lcp {xs : List D} {turn : D → HS b → R b (Option D)} {n : Nat} {Q : List D → HS b → Prop} (g : D → Option D) (hf : xs.length < n) (h : ∀ d ∈ xs, W (turn d s) (fun r s1 => r = g d ∧ s1 = s) X0) (q : Q (xs.filterMap g) s) : W (lcL (Src.its xs).at turn n 0 [] s) Q E := by
  refine w_is (lcL_pure (g := g) (xs := xs) (fun i => rfl) (fun d hd => ?_) n 0 [] (by omega) (Nat.zero_le _)) ?_
  · obtain ⟨a, s1, e, rfl, rfl⟩ := (h d hd).get
    exact e
  · simpa using q
theorem w_lcpl {p : Nat} {w : Bool} {xs : List D} {turn : D → HS b → R b (Option D)} {n : Nat} {Q : List D → HS b → Prop} (g : D → Option D) (hp : s.M[p]? = some (.lst w xs)) (hf : xs.length < n) (h : ∀ d ∈ xs, W (turn d s) (fun r s1 => r = g d ∧ s1 = s) X0) (q : Q (xs.filterMap g) s) : W (lcL (Src.live p).at turn n 0 [] s) Q E := by
  refine w_is (lcL_pure (g := g) (xs := xs) (fun i => by simp [Src.at, hp]) (fun d hd => ?_) n 0 [] (by omega) (Nat.zero_le _)) ?_
  · obtain ⟨a, s1, e, rfl, rfl⟩ := (h d hd).get
    exact e
  · simpa using q
theorem w_srcL {q : Nat} {w : Bool} {xs : List D} {Q : Src → HS b → Prop} (hq : s.M[q]? = some (.lst w xs)) (h : Q (.live q) s) : W (srcR .val [.ref q] s) Q E := by
  have e : srcR .val [.ref q] s = ret (.live q) s := by simp only [srcR, src, hq]
  exact w_is e h
theorem w_srcT {xs : List D} {Q : Src → HS b → Prop} (h : Q (.its xs) s) : W (srcR .val [.tup xs] s) Q E := h
theorem w_srcZ {xs ys : List D} {Q : Src → HS b → Prop} (h : Q (.its (List.zipWith (fun x y => .tup [x, y]) xs ys)) s) : W (srcR .zip [.tup xs, .tup ys] s) Q E := h
theorem w_srcZS {xs ys : List D} {Q : Src → HS b → Prop} (hl : xs.length = ys.length) (h : Q (.its (List.zipWith (fun x y => .tup [x, y]) xs ys)) s) : W (srcR .zipS [.tup xs, .tup ys] s) Q E := by
  have e : srcR .zipS [.tup xs, .tup ys] s = ret (.its (List.zipWith (fun x y => .tup [x, y]) xs ys)) s := by simp only [srcR, src, hl, if_true]
  exact w_is e h
theorem w_srcR {n : Int} {Q : Src → HS b → Prop} (h1 : -1000000 ≤ n) (h2 : n ≤ 1000000) (h : Q (.rng 0 n.toNat) s) : W (srcR .range [.int n] s) Q E := w_is (rngs h1 h2 s) h
theorem w_srcR2 {n m : Int} {Q : Src → HS b → Prop} (h1 : -1000000 ≤ n) (h2 : n ≤ 1000000) (h3 : -1000000 ≤ m) (h4 : m ≤ 1000000) (h : Q (.rng n (m - n).toNat) s) : W (srcR .range2 [.int n, .int m] s) Q E := w_is (rngs2 h1 h2 h3 h4 s) h
theorem x_int {i : Int} {K : Int → Prop} (h : K i) : ∃ j, D.int i = .int j ∧ K j := ⟨i, rfl, h⟩
theorem x_bl {i : Bool} {K : Bool → Prop} (h : K i) : ∃ j, D.bl i = .bl j ∧ K j := ⟨i, rfl, h⟩
theorem x_set {is : List Nat} {ds : List D} {e e1 : Env} {K : Env → Prop} (h : setAll is ds e = some e1) (q : K e1) : ∃ e1, setAll is ds e = some e1 ∧ K e1 := ⟨e1, h, q⟩
theorem x_bind {t : Tg} {d : D} {e e1 : Env} {K : Env → Prop} (h : t.bind d e = some e1) (q : K e1) : ∃ e1, t.bind d e = some e1 ∧ K e1 := ⟨e1, h, q⟩
theorem x_bindT {is : List Nat} {ds : List D} {M : List MO} {e e1 : Env} {K : Env → Prop} (h : setAll is ds e = some e1) (q : K e1) : ∃ e1, (Tg.tp is).bindM M (.tup ds) e = some e1 ∧ K e1 := ⟨e1, h, q⟩
theorem x_bindL {is : List Nat} {p : Nat} {w : Bool} {ds : List D} {M : List MO} {e e1 : Env} {K : Env → Prop} (hp : M[p]? = some (.lst w ds)) (h : setAll is ds e = some e1) (q : K e1) : ∃ e1, (Tg.tp is).bindM M (.ref p) e = some e1 ∧ K e1 := ⟨e1, by simp only [Tg.bindM, hp]; exact h, q⟩
theorem x_so {n : Nat} {K : Prop} (h : n ≤ 100000) (q : K) : sizeOk n = true ∧ K := ⟨so_le h, q⟩
theorem c_t {A B : Prop} (h : A) : (true = true → A) ∧ (true = false → B) := ⟨fun _ => h, fun z => (nomatch z)⟩
theorem c_f {A B : Prop} (h : B) : (false = true → A) ∧ (false = false → B) := ⟨fun z => (nomatch z), fun _ => h⟩
theorem c_d {p : Prop} [Decidable p] {A B : Prop} (h1 : p → A) (h2 : ¬ p → B) : (decide p = true → A) ∧ (decide p = false → B) := ⟨fun z => h1 (of_decide_eq_true z), fun z => h2 (of_decide_eq_false z)⟩
theorem c_n {t : Bool} {A B : Prop} (h : (t = true → B) ∧ (t = false → A)) : ((!t) = true → A) ∧ ((!t) = false → B) := by
  cases t
  · exact ⟨fun _ => h.2 rfl, fun z => (nomatch z)⟩
  · exact ⟨fun z => (nomatch z), fun _ => h.1 rfl⟩
theorem c_b {i j : Int} {A B : Prop} (h1 : i = j → A) (h2 : i ≠ j → B) : ((i == j) = true → A) ∧ ((i == j) = false → B) := ⟨fun z => h1 (by simpa using z), fun z => h2 (by simpa using z)⟩
end PV
local macro_rules | `(tactic| walk_at "w1") => `(tactic| first | (with_reducible refine PV.w_cst ?_) | ((with_reducible refine PV.w_var (d := ?wd) ?wv ?_); (case wv => rfl)) | (with_reducible refine PV.w_glb ?_) | (with_reducible refine PV.w_bin ?_) | (with_reducible refine PV.w_neg ?_) | (with_reducible refine PV.w_cmp ?_) | (with_reducible refine PV.w_chn ?_) | (with_reducible refine PV.w_ands ?_) | (with_reducible refine PV.w_ors ?_) | (with_reducible refine PV.w_and1 ?_) | (with_reducible refine PV.w_or1 ?_) | (with_reducible refine PV.w_and2 ?_) | (with_reducible refine PV.w_or2 ?_) | (with_reducible refine PV.w_nt ?_) | (with_reducible refine PV.w_ite ?_) | (with_reducible refine PV.w_tup ?_) | (with_reducible refine PV.w_lst ?_) | (with_reducible refine PV.w_dct0 ?_) | (with_reducible refine PV.w_call ?_) | (with_reducible refine PV.w_bi ?_) | (with_reducible refine PV.w_mt ?_) | (with_reducible refine PV.w_idx ?_) | (with_reducible refine PV.w_slc ?_) | (with_reducible refine PV.w_o0 ?_) | (with_reducible refine PV.w_o1 ?_) | (with_reducible refine PV.w_nil ?_) | (with_reducible refine PV.w_cons ?_) | (with_reducible refine PV.w_if0 ?_) | (with_reducible refine PV.w_if1 ?_) | (with_reducible refine PV.w_lc ?_) | (with_reducible refine PV.w_lt ?_) | (with_reducible refine PV.w_le ?_) | (with_reducible refine PV.w_gt ?_) | (with_reducible refine PV.w_ge ?_) | (with_reducible refine PV.w_eqi ?_) | (with_reducible refine PV.w_nei ?_) | (with_reducible refine PV.w_isb ?_) | (with_reducible refine PV.w_isnb ?_) | (with_reducible refine PV.w_add ?_) | (with_reducible refine PV.w_sub ?_) | (with_reducible refine PV.w_slT ?_) | (with_reducible refine PV.w_max ?_) | (with_reducible refine PV.w_min ?_) | (with_reducible refine PV.w_intb ?_) | (with_reducible refine PV.w_inti ?_) | (with_reducible refine PV.w_abs ?_) | (with_reducible refine PV.w_reprB ?_) | (with_reducible refine PV.tt_bl ?_) | (with_reducible refine PV.tt_int ?_) | (with_reducible refine PV.tt_tup ?_) | (with_reducible refine PV.tt_non ?_) | (with_reducible refine PV.z_nil ?_) | (with_reducible refine PV.z_cons ?_) | (with_reducible refine PV.z_exp ?_) | (with_reducible refine PV.z_ret ?_) | (with_reducible refine PV.z_set ?_) | (with_reducible refine PV.z_setT ?_) | (with_reducible refine PV.z_par ?_) | (with_reducible refine PV.z_sub ?_) | (with_reducible refine PV.z_ite ?_) | (with_reducible refine PV.z_for ?_) | (with_reducible refine PV.z_raise ?_) | (with_reducible refine PV.z_pass ?_) | (with_reducible refine PV.w_cf ?_) | (with_reducible refine PV.w_srcT ?_) | (with_reducible refine PV.w_srcZ ?_) | (with_reducible refine PV.w_lenT ?_) | (with_reducible refine PV.w_listT ?_) | (with_reducible refine PV.w_tupleT ?_) | (with_reducible refine PV.x_int ?_) | (with_reducible refine PV.x_bl ?_) | ((with_reducible refine PV.x_so ?wz ?_); (case wz => first | decide | (simp only [List.length_cons, List.length_nil, List.length_map]; omega))) | ((with_reducible refine PV.x_set (e1 := ?wd) ?wv ?_); (case wv => rfl)) | ((with_reducible refine PV.x_bindT (e1 := ?wd) ?wv ?_); (case wv => rfl)) | (with_reducible refine PV.c_t ?_) | (with_reducible refine PV.c_f ?_) | (with_reducible refine PV.c_n ?_))
local macro_rules | `(tactic| walk_at "w0") => `(tactic| simp only [List.map_cons, List.map_nil, List.length_cons, List.length_nil, List.cons_append, List.nil_append, List.replicate, Nat.reduceAdd, Nat.reduceSub])
local macro_rules | `(tactic| walk_at "ww") => `(tactic| repeat walk_at "w1")
set_option Elab.async false
set_option linter.all false
set_option autoImplicit false
set_option maxRecDepth 100000
set_option maxHeartbeats 1000000
namespace PV
open PySem
variable {b : List MO}
theorem at_lt {M : List MO} {q : Nat} {o : MO} (h : M[q]? = some o) : q < M.length := (List.getElem?_eq_some_iff.mp h).1
theorem at_alloc {s : HS b} {q : Nat} {o o' : MO} (h : s.M[q]? = some o) : (s.alloc o').M[q]? = some o := by
  rw [alloc_M, List.getElem?_append_left (at_lt h)]
  exact h
theorem at_new (s : HS b) (o : MO) : (s.alloc o).M[s.M.length]? = some o := by simp
theorem at_set {s : HS b} {q i : Nat} {o o' : MO} (hq : q ≠ i) (h : s.M[q]? = some o) : (s.set i o').M[q]? = some o := by
  rw [set_M, List.getElem?_set_ne (Ne.symm hq)]
  exact h
theorem at_set_self {s : HS b} {i : Nat} {o o' : MO} (h : s.M[i]? = some o) : (s.set i o').M[i]? = some o' := by
  rw [set_M, List.getElem?_set_self (at_lt h)]
theorem ixN_lt {n : Nat} {v : Int} (h0 : 0 ≤ v) (h1 : v < n) : L2.ixN n v = some v.toNat := by
  unfold L2.ixN
  rw [if_pos h0, if_pos h1]
theorem atI_lt {xs : List D} {v : Int} (h0 : 0 ≤ v) (h1 : v < xs.length) : ∃ z, L2.atI xs v = some z ∧ xs[v.toNat]? = some z := by
  have hv : v.toNat < xs.length := by omega
  refine ⟨xs[v.toNat], ?_, by simp [hv]⟩
  unfold L2.atI
  rw [ixN_lt h0 h1]
  simp [hv]
def Pool (s : HS b) (p : Nat) : Prop := ∃ x y : Int, s.M[p]? = some (.lst true [.int x, .int y])
theorem Pool.lt {p : Nat} {s : HS b} (h : Pool s p) : p < s.M.length := by
  obtain ⟨x, y, e⟩ := h
  exact at_lt e
structure Drw (p : Nat) (s s' : HS b) : Prop where
  pool : Pool s' p
  len : s.M.length ≤ s'.M.length
  same : ∀ i, i ≠ p → i < s.M.length → s'.M[i]? = s.M[i]?
  wf : s'.wf
theorem Drw.refl {p : Nat} {s : HS b} (h : Pool s p) (w : s.wf) : Drw p s s := ⟨h, Nat.le_refl _, fun _ _ _ => rfl, w⟩
theorem Drw.trans {p : Nat} {s s1 s2 : HS b} (h : Drw p s s1) (k : Drw p s1 s2) : Drw p s s2 :=
  ⟨k.pool, Nat.le_trans h.len k.len, fun i hi hl => (k.same i hi (Nat.lt_of_lt_of_le hl h.len)).trans (h.same i hi hl), k.wf⟩
theorem at_drw {p q : Nat} {s s' : HS b} {o : MO} (d : Drw p s s') (hq : q ≠ p) (h : s.M[q]? = some o) : s'.M[q]? = some o := (d.same q hq (at_lt h)).trans h
theorem Drw.alloc {p : Nat} {s s1 : HS b} (h : Drw p s s1) (o : MO) : Drw p s (s1.alloc o) := by
  refine ⟨?_, by simp; have := h.len; omega, fun i hi hl => ?_, alloc_wf h.wf o⟩
  · obtain ⟨x, y, e⟩ := h.pool
    exact ⟨x, y, at_alloc e⟩
  · rw [alloc_M, List.getElem?_append_left (Nat.lt_of_lt_of_le hl h.len)]
    exact h.same i hi hl
theorem Drw.set {p i : Nat} {s s1 : HS b} (h : Drw p s s1) (hi : s.M.length ≤ i) (hp : p < s.M.length) (hl : i < s1.M.length) (o : MO) : Drw p s (s1.set i o) := by
  refine ⟨?_, by simp; exact h.len, fun j hj hl => ?_, ?_⟩
  · obtain ⟨x, y, e⟩ := h.pool
    exact ⟨x, y, at_set (by omega) e⟩
  · rw [set_M, List.getElem?_set_ne (by omega)]
    exact h.same j hj hl
  · show min s1.lo i ≤ (s1.M.set i o).length
    rw [List.length_set]
    omega
theorem Drw.back {p : Nat} {s : HS b} {s1 : HS s.M} (hw : s.wf) (h : Drw p (HS.start s.M) s1) : Drw p s (s.back s1) :=
  ⟨h.pool, h.len, h.same, by
    show min s.lo s1.lo ≤ s1.M.length
    have := h.len
    have : s.lo ≤ s.M.length := hw
    simp at *
    omega⟩
theorem fin_drw {p : Nat} {s : HS b} {d : D} {s1 : HS s.M} {Q : D → HS b → Prop} {E : XW b} (hd : d.imm = true) (hw : s.wf) (hp : Pool s p) (h : Drw p (HS.start s.M) s1) (q : ∀ s', Drw p s s' → Q d s') : W (fin s d s1) Q E := by
  by_cases hl : s1.lo = s.M.length
  · exact f_imm hl hd (q s (Drw.refl hp hw))
  · exact f_keep hl (q _ (h.back hw))
def bDraw : List CS := [(.ite (.cmp .gt (.idx (.var 0) (.cst (.int 0))) (.cst (.int 0))) [(.set (.nm 2) (.bin .mod (.idx (.var 0) (.cst (.int 0))) (.var 1))), (.sub (.var 0) (.cst (.int 0)) (.bin .fdiv (.idx (.var 0) (.cst (.int 0))) (.var 1))), (.ret (.var 2))] []), (.sub (.var 0) (.cst (.int 1)) (.bin .mod (.bin .add (.bin .mul (.idx (.var 0) (.cst (.int 1))) (.cst (.int 48271))) (.cst (.int 11))) (.cst (.int 2147483647)))), (.ret (.bin .mod (.bin .fdiv (.bin .mod (.bin .mul (.idx (.var 0) (.cst (.int 1))) (.idx (.var 0) (.cst (.int 1)))) (.cst (.int 2147483629))) (.cst (.int 64))) (.var 1)))]
def bHand : List CS := [(.set (.nm 2) (.idx (.bin .add (.slc (.var 0) (some (.var 1)) (some (.bin .add (.var 1) (.cst (.int 1))))) (.lst [.cst (.int 0)])) (.cst (.int 0)))), (.set (.nm 3) (.bin .mod (.bin .mul (.bin .add (.bin .add (.bin .mod (.var 2) (.cst (.int 2147483647))) (.bin .mul (.cst (.int 7919)) (.var 1))) (.cst (.int 1))) (.cst (.int 48271))) (.cst (.int 2147483629)))), (.ret (.lst [.bin .mul (.bi .int [.cmp .ge (.var 2) (.bin .pow (.cst (.int 10)) (.cst (.int 18)))]) (.var 2), .var 3]))]
theorem divOk_of {n : Int} (h0 : 0 < n) (h : n ≤ 10 ^ 40) : divOk n = true := by
  have hlog : n.natAbs.log2 < 9000 := by
    rw [Nat.log2_lt (by omega)]
    have h1 : n.natAbs ≤ 10 ^ 40 := by omega
    exact Nat.lt_of_le_of_lt h1 (by decide +kernel)
  have : n ≠ 0 := by omega
  simp [divOk, this, hlog]
theorem w_draw {pg : Pg} {k f p : Nat} {n : Int} {s : HS b} {Q : D → HS b → Prop} {E : XW b} (hf : pg.tb f = some ⟨2, 3, bDraw⟩) (hw : s.wf) (hp : Pool s p) (hn : 0 < n) (hz : n ≤ 10 ^ 40)
    (h : ∀ (v : Int) (s' : HS b), 0 ≤ v → v < n → s'.M.length = s.M.length → Drw p s s' → Q (.int v) s') : W (callF pg (k + 1) f [.ref p, .int n] s) Q E := by
  obtain ⟨x, y, hm⟩ := hp
  have hlt := at_lt hm
  have hn0 : n ≠ 0 := by omega
  have key : ∀ (o : MO) (v : Int), (∃ x y : Int, o = .lst true [.int x, .int y]) → 0 ≤ v → v < n → W (fin s (.int v) ((HS.start s.M).set p o)) Q E := by
    rintro o v ⟨x', y', rfl⟩ h0 h1
    have hlo : ((HS.start s.M).set p (.lst true [.int x', .int y'])).lo ≠ s.M.length := by
      simp
      omega
    refine f_keep hlo (h v _ h0 h1 (by simp) ⟨⟨x', y', by simp [hlt]⟩, by simp, fun i hi _ => by simp [List.getElem?_set_ne (Ne.symm hi)], ?_⟩)
    show min s.lo (min s.M.length p) ≤ _
    simp
    omega
  refine W_call (d := ⟨2, 3, bDraw⟩) hf rfl ?_
  walk_at "w0"
  unfold bDraw
  walk_at "ww"
  refine w_ixr (xs := [.int x, .int y]) hm rfl ?_
  walk_at "ww"
  refine c_d (fun hx => ?_) (fun hx => ?_)
  · walk_at "ww"
    refine w_ixr (xs := [.int x, .int y]) hm rfl ?_
    walk_at "ww"
    refine w_mod hn0 ?_
    walk_at "ww"
    refine w_ixr (xs := [.int x, .int y]) hm rfl ?_
    walk_at "ww"
    refine w_fdiv (divOk_of hn hz) ?_
    walk_at "ww"
    refine ⟨_, setItem_ref (s := HS.start s.M) (k := 0) hm rfl, ?_⟩
    walk_at "ww"
    exact key _ _ ⟨_, _, rfl⟩ (Int.fmod_nonneg_of_pos x hn) (Int.fmod_lt_of_pos x hn)
  · walk_at "ww"
    refine w_ixr (xs := [.int x, .int y]) hm rfl ?_
    walk_at "ww"
    refine w_mul (mulOk_right (by decide)) ?_
    walk_at "ww"
    refine w_mod (by decide) ?_
    have hy0 : 0 ≤ (y * 48271 + 11).fmod 2147483647 := Int.fmod_nonneg_of_pos _ (by decide)
    have hy1 : (y * 48271 + 11).fmod 2147483647 < 2147483647 := Int.fmod_lt_of_pos _ (by decide)
    generalize (y * 48271 + 11).fmod 2147483647 = y' at hy0 hy1 ⊢
    walk_at "ww"
    refine ⟨_, setItem_ref (s := HS.start s.M) (k := 1) hm rfl, ?_⟩
    have hm2 : ((HS.start s.M).set p (.lst true [.int x, .int y'])).M[p]? = some (.lst true [.int x, .int y']) := at_set_self (s := HS.start s.M) hm
    walk_at "ww"
    refine w_ixr (xs := [.int x, .int y']) hm2 rfl ?_
    walk_at "ww"
    refine w_ixr (xs := [.int x, .int y']) hm2 rfl ?_
    walk_at "ww"
    refine w_mul (mulOk_right (by omega)) ?_
    walk_at "ww"
    refine w_mod (by decide) ?_
    walk_at "ww"
    refine w_fdiv (by decide +kernel) ?_
    walk_at "ww"
    refine w_mod hn0 ?_
    exact key _ _ ⟨_, _, rfl⟩ (Int.fmod_nonneg_of_pos _ hn) (Int.fmod_lt_of_pos _ hn)
theorem cut_ints (ns : List Int) (lo hi : Option Int) : ∃ ms : List Int, cutD (ns.map D.int) lo hi = ms.map D.int ∧ ms.length ≤ ns.length := by
  refine ⟨(ns.drop (HT.sIx (ns.map D.int).length 0 lo)).take (HT.sIx (ns.map D.int).length (ns.map D.int).length hi - HT.sIx (ns.map D.int).length 0 lo), ?_, ?_⟩
  · unfold cutD
    rw [List.map_take, List.map_drop]
  · rw [List.length_take, List.length_drop]
    omega
theorem w_hand {pg : Pg} {k f q : Nat} {n : Int} {ns : List Int} {w : Bool} {s : HS b} {Q : D → HS b → Prop} {E : XW b} (hf : pg.tb f = some ⟨2, 4, bHand⟩) (hq : s.M[q]? = some (.lst w (ns.map D.int))) (hl : ns.length ≤ 1000)
    (h : ∀ a c : Int, Q (.ref s.M.length) (s.alloc (.lst true [.int a, .int c]))) : W (callF pg (k + 1) f [.ref q, .int n] s) Q E := by
  obtain ⟨ms, e1, e2⟩ := cut_ints ns (some n) (some (n + 1))
  obtain ⟨c, r, e3⟩ : ∃ (c : Int) (r : List D), ms.map D.int ++ [D.int 0] = .int c :: r := by
    cases ms with
    | nil => exact ⟨0, [], rfl⟩
    | cons m ms => exact ⟨m, _, rfl⟩
  refine W_call (d := ⟨2, 4, bHand⟩) hf rfl ?_
  walk_at "w0"
  unfold bHand
  walk_at "ww"
  refine w_slL hq ?_
  rw [e1]
  walk_at "ww"
  refine w_addL (at_alloc (at_new (HS.start s.M) _)) (at_new _ _) (so_le (by simp; omega)) ?_
  rw [e3]
  walk_at "ww"
  refine w_ixr (at_new _ _) (show L2.atI (D.int c :: r) 0 = some (.int c) by unfold L2.atI L2.ixN; simp) ?_
  walk_at "ww"
  refine w_mod (by decide) ?_
  walk_at "ww"
  refine w_mul (mulOk_left (by decide)) ?_
  walk_at "ww"
  refine w_mul (mulOk_right (by decide)) ?_
  walk_at "ww"
  refine w_mod (by decide) ?_
  walk_at "ww"
  refine w_is (a := .int 1000000000000000000) (by simp only [bin]; rfl) ?_
  walk_at "ww"
  refine w_mul (mulOk_left (by split <;> decide)) ?_
  walk_at "ww"
  refine f_lst (by simp) ?_ (at_new _ _) (by simp [D.immL, D.imm]) (h _ _)
  simp
structure SmI (x : D) : Prop where
  imm : x.imm = true
  lay : (pdD x).canLay0 = true
  sh : (pdD x).showable = true
  lv : (pdD x).leavesShort 64 = true
  wt : (pdD x).weight ≤ 160
  dep : (pdD x).depth ≤ 3
theorem smi_int {i : Int} (h : i.natAbs < 10 ^ 40) : SmI (.int i) := by
  have hl : i.natAbs.log2 < 134 := by
    by_cases z : i.natAbs = 0
    · rw [z]; decide
    · rw [Nat.log2_lt z]
      exact Nat.lt_of_lt_of_le h (by decide +kernel)
  refine ⟨rfl, rfl, ?_, ?_, ?_, by simp [pdD, PyData.depth]⟩
  · simp only [pdD, PyData.showable, decide_eq_true_eq]
    omega
  · have e : (pdD (.int i)).shown.length = (toString i).length := by
      simp only [pdD, PyData.shown]
      exact ofString_length _
    simp only [pdD] at e
    simp only [pdD, PyData.leavesShort, decide_eq_true_eq]
    rw [e]
    exact Nat.le_trans (int_text_length_le10 (k := 40) (by decide) h) (by decide)
  · simp only [pdD, PyData.weight]
    split <;> omega
theorem smi_all : ∀ {xs : List D}, (∀ x ∈ xs, SmI x) → D.immL xs = true ∧ PyData.canLayAll0 (pdL xs) = true ∧ PyData.showableAll (pdL xs) = true ∧ PyData.leavesShortAll 64 (pdL xs) = true ∧ PyData.weightAll (pdL xs) ≤ 161 * xs.length ∧ PyData.depthAll (pdL xs) ≤ 3
  | [], _ => ⟨rfl, rfl, rfl, rfl, by simp [pdL, PyData.weightAll], by simp [pdL, PyData.depthAll]⟩
  | x :: xs, h => by
    have h0 := h x List.mem_cons_self
    obtain ⟨h1, h2, h3, h4, h5, h6⟩ := smi_all (xs := xs) fun y hy => h y (List.mem_cons_of_mem _ hy)
    refine ⟨by simp [D.immL, h0.imm, h1], by simp [pdL, PyData.canLayAll0, h0.lay, h2], by simp [pdL, PyData.showableAll, h0.sh, h3], by simp [pdL, PyData.leavesShortAll, h0.lv, h4], ?_, ?_⟩
    · simp only [pdL, PyData.weightAll, List.length_cons]
      have := h0.wt
      omega
    · simp only [pdL, PyData.depthAll]
      have := h0.dep
      omega
theorem sm_tup {xs : List D} (h : ∀ x ∈ xs, SmI x) (hl : xs.length ≤ 6) : (D.tup xs).imm = true ∧ Sm (pdD (.tup xs)) := by
  obtain ⟨h1, h2, h3, h4, h5, h6⟩ := smi_all h
  refine ⟨h1, ?_, ?_, ?_, ?_, ?_⟩
  · simpa [pdD, PyData.canLay0] using h2
  · simpa [pdD, PyData.showable] using h3
  · simpa [pdD, PyData.leavesShort] using h4
  · simp only [pdD, PyData.weight]; omega
  · simp only [pdD, PyData.depth]; omega
theorem sm_lst {xs : List D} (h : ∀ x ∈ xs, SmI x) (hl : xs.length ≤ 6) : Sm (.list (pdL xs)) := by
  obtain ⟨h1, h2, h3, h4, h5, h6⟩ := smi_all h
  refine ⟨?_, ?_, ?_, ?_, ?_⟩
  · simpa [PyData.canLay0] using h2
  · simpa [PyData.showable] using h3
  · simpa [PyData.leavesShort] using h4
  · simp only [PyData.weight]; omega
  · simp only [PyData.depth]; omega
def Rp (M : List MO) (z : D) (r : Str) : Prop := (∃ d, deep M z = some d ∧ Sm d ∧ r = d.shown) ∨ ∃ q, z = .ref q ∧ M[q]? = some (.dct 0 []) ∧ r = "{}"
theorem w_rp {s : HS b} {z : D} {r : Str} {Q : D → HS b → Prop} {E : XW b} (h : Rp s.M z r) (q : Q (.str r) s) : W (PV.call .repr [z] s) Q E := by
  rcases h with ⟨d, h1, h2, rfl⟩ | ⟨p, rfl, h1, rfl⟩
  · exact w_repr h1 h2 q
  · have e : PV.call .repr [.ref p] s = ret (.str "{}") s := by
      have hd : deep s.M (.ref p) = none := by
        show deepR s.M 8 p = none
        simp [deepR, h1]
      simp only [PV.call, hd, h1]
    exact w_is e q
theorem Rp.pl {M : List MO} {z : D} {r : Str} (h : Rp M z r) : Pl 1 (.str r) := by
  rcases h with ⟨d, h1, h2, rfl⟩ | ⟨p, rfl, h1, rfl⟩
  · exact h2.str
  · exact ⟨by decide +kernel, by decide +kernel⟩
theorem pl_tup {xs : List D} {n : Nat} (h : ∀ x ∈ xs, Pl n (pdD x)) : PyData.canLayAll0 (pdL xs) = true ∧ PyData.depthAll (pdL xs) ≤ n := by
  induction xs with
  | nil => exact ⟨rfl, by simp [pdL, PyData.depthAll]⟩
  | cons x xs ih =>
    obtain ⟨h1, h2⟩ := ih fun y hy => h y (List.mem_cons_of_mem _ hy)
    have h0 := h x List.mem_cons_self
    refine ⟨by simp [pdL, PyData.canLayAll0, h0.lay, h1], ?_⟩
    simp only [pdL, PyData.depthAll]
    have := h0.dep
    omega
theorem pl_list {xs : List D} {n : Nat} (h : ∀ x ∈ xs, Pl n (pdD x)) : Pl (n + 1) (.list (pdL xs)) := by
  obtain ⟨h1, h2⟩ := pl_tup h
  exact ⟨by simpa [PyData.canLay0] using h1, by simp only [PyData.depth]; omega⟩
theorem pl_tupl {xs : List D} {n : Nat} (h : ∀ x ∈ xs, Pl n (pdD x)) : Pl (n + 1) (pdD (.tup xs)) := by
  obtain ⟨h1, h2⟩ := pl_tup h
  exact ⟨by simpa [pdD, PyData.canLay0] using h1, by simp only [pdD, PyData.depth]; omega⟩
theorem Pl.up {n m : Nat} {d : PyData} (h : Pl n d) (hn : n ≤ m) : Pl m d := ⟨h.lay, Nat.le_trans h.dep hn⟩
theorem pl_int (i : Int) : Pl 1 (pdD (.int i)) := ⟨rfl, by simp [pdD, PyData.depth]⟩
theorem pl_bl (i : Bool) : Pl 1 (pdD (.bl i)) := ⟨rfl, by simp [pdD, PyData.depth]⟩
theorem same_lst {M : List MO} {p q n : Nat} {w v : Bool} {xs : List D} (hp : M[p]? = some (.lst w xs)) (hq : M[q]? = some (.lst v xs)) (hi : D.immL xs = true) (h : ∀ x ∈ xs, Pl n (pdD x)) (hn : n < 64) : eqD M (.ref p) (.ref q) = some true :=
  eqD_self (deep_lst hp hi) (deep_lst hq hi) (pl_list h) hn
def Tyd (M : List MO) (x : D) : Prop := ∀ t, ∃ k, isTy M t x = some k
theorem tyd_imm {M : List MO} {x : D} (h : x.imm = true) : Tyd M x := fun t => by
  cases x <;> first | exact ⟨_, rfl⟩ | cases h
theorem asInts_map : ∀ l : List Int, asInts (l.map D.int) = some l
  | [] => rfl
  | x :: l => by simp [asInts, asInts_map l]
theorem asBools_map {α : Type} (g : α → Bool) : ∀ l : List α, asBools (l.map fun x => D.bl (g x)) = some (l.map g)
  | [] => rfl
  | x :: l => by simp [asBools, asBools_map g l]
theorem imm_ints : ∀ is : List Int, D.immL (is.map D.int) = true
  | [] => rfl
  | i :: is => by simp [D.immL, D.imm, imm_ints is]
end PV
set_option Elab.async false
set_option linter.all false
set_option maxRecDepth 100000
set_option maxHeartbeats 2000000
namespace PV
open PySem
section
variable {b : List MO} {P : Ev} {X : Cur} {e : Env} {s : HS b} {Q : D → HS b → Prop} {E : XW b}
theorem eq_of_W {α : Type} {x : R b α} {a : α} {s1 : HS b} (h : W x (fun y s2 => y = a ∧ s2 = s1) X0) : x = ret a s1 := by
  obtain ⟨y, s2, e, rfl, rfl⟩ := h.get
  exact e
theorem lc2L_W {at_ : Nat → HS b → Option (Option D)} {turn : D → List D → HS b → R b (List D)} {Q : List D → HS b → Prop} (m : Nat) (I : Nat → List D → HS b → Prop)
    (h : ∀ i acc s, I i acc s → i ≤ m ∧ ((at_ i s = some none ∧ Q acc s) ∨ (i < m ∧ ∃ d, at_ i s = some (some d) ∧ W (turn d acc s) (fun acc1 s1 => I (i + 1) acc1 s1) E))) : ∀ (n i : Nat) (acc : List D) (s : HS b), m < n + i → I i acc s → W (lc2L at_ turn n i acc s) Q E
  | 0, i, acc, s, hn, hI => by
    have := (h i acc s hI).1
    omega
  | n + 1, i, acc, s, hn, hI => by
    obtain ⟨_, ⟨e1, q⟩ | ⟨hm, d, e1, q⟩⟩ := h i acc s hI
    · simp only [lc2L, e1]
      exact q
    · simp only [lc2L, e1, W_bnd]
      exact q.mono (fun r s1 z => lc2L_W m I h n (i + 1) _ s1 (by omega) z) fun _ _ _ z => z
theorem w_lc2 {tg tg2 : Tg} {k k2 : ITk} {sr ifs sr2 ifs2 : List CE} {elt : CE} {own own2 : List Nat} (h : W (evL P X sr e s) (fun xs s1 => W (srcR k xs s1) (fun r s2 => W (lc2L r.at (turnO P tg ifs tg2 k2 sr2 ifs2 elt own2 (wipeE e own)) P.fu 0 [] s2) (fun ys s3 => Q (.ref s3.M.length) (s3.alloc (.lst true ys))) E) E) E) :
    W (evE P X (.lc2 tg k sr ifs tg2 k2 sr2 ifs2 elt own own2) e s) Q E := by
  rw [evE_lc2, W_bnd, W_bnd]
  simpa only [W_bnd, W_ret] using h
theorem w_turnO {tg tg2 : Tg} {k2 : ITk} {sr2 ifs2 : List CE} {elt : CE} {own2 : List Nat} {d : D} {acc : List D} {e1 : Env} {Q : List D → HS b → Prop} (hb : tg.bind d e = some e1)
    (h : W (evL P none sr2 e1 s) (fun xs s1 => W (srcR k2 xs s1) (fun r2 s2 => W (lcL r2.at (turnC P tg2 ifs2 elt (wipeE e1 own2)) P.fu 0 acc s2) (fun ys s3 => ys.length ≤ P.fu ∧ Q ys s3) X0) X0) X0) : W (turnO P tg [] tg2 k2 sr2 ifs2 elt own2 e d acc s) Q E := by
  refine W_noX ?_
  simp only [hb]
  rw [W_bnd]
  refine w_if0 ?_
  simp only [if_true]
  rw [W_bnd, W_bnd, W_bnd]
  refine h.mono (fun xs s1 h1 => h1.mono (fun r2 s2 h2 => h2.mono (fun ys s3 ⟨h3, h4⟩ => ?_) fun _ _ _ z => z) fun _ _ _ z => z) fun _ _ _ z => z
  rw [if_pos (decide_eq_true h3)]
  exact h4
theorem w_lcpA {src : Src} {xs : List D} {turn : D → HS b → R b (Option D)} {n : Nat} {acc : List D} {Q : List D → HS b → Prop} (g : D → Option D) (ha : ∀ i, src.at i s = some xs[i]?) (hf : xs.length < n) (h : ∀ d ∈ xs, W (turn d s) (fun r s1 => r = g d ∧ s1 = s) X0) (q : Q (acc ++ xs.filterMap g) s) : W (lcL src.at turn n 0 acc s) Q E := by
  refine w_is (lcL_pure (g := g) (xs := xs) ha (fun d hd => ?_) n 0 acc (by omega) (Nat.zero_le _)) ?_
  · obtain ⟨a, s1, e, rfl, rfl⟩ := (h d hd).get
    exact e
  · simpa using q
theorem w_srtF {f : Nat} {a : CE} (h : W (evE P X a e s) (fun x s1 => W (srtE (fun y s2 => P.cf f [y] s2) x s1) Q E) E) : W (evE P X (.srtF f a) e s) Q E := by
  show W (bnd _ _) _ _
  rw [W_bnd]
  exact h
theorem w_srtL {body a : CE} (h : W (evE P X a e s) (fun x s1 => W (srtE (fun y s2 => evE P none body [some y] s2) x s1) Q E) E) : W (evE P X (.srtL body a) e s) Q E := by
  show W (bnd _ _) _ _
  rw [W_bnd]
  exact h
theorem mapL_pure {g : D → HS b → R b D} {kf : D → D} : ∀ {xs : List D}, (∀ x ∈ xs, g x s = ret (kf x) s) → mapL g xs s = ret (xs.map kf) s
  | [], _ => rfl
  | x :: xs, h => by
    simp only [mapL, h x List.mem_cons_self]
    show bnd (mapL g xs s) _ = _
    rw [mapL_pure fun y hy => h y (List.mem_cons_of_mem _ hy)]
    rfl
theorem w_srt {g : D → HS b → R b D} {p : Nat} {w : Bool} {xs : List D} {kz : List PyData} (kf : D → D) (hp : s.M[p]? = some (.lst w xs)) (hk : ∀ x ∈ xs, W (g x s) (fun y s1 => y = kf x ∧ s1 = s) X0) (hz : deepWL (deepR s.M 8) (xs.map kf) = some kz)
    (hc : (alikeB kz && sortB kz && kz.all (fun d => decide (d.depth ≤ 64))) = true) (h : Q (.ref s.M.length) (s.alloc (.lst true (inOrder xs kz)))) : W (srtE g (.ref p) s) Q E := by
  have e := mapL_pure (g := g) (kf := kf) (s := s) (xs := xs) fun x hx => eq_of_W (hk x hx)
  unfold srtE
  simp only [hp, e]
  show W (bnd (ret _ _) _) _ _
  simp only [bnd, ret, hz, hc, if_true]
  exact h
end
end PV
set_option Elab.async false
set_option linter.all false
set_option maxRecDepth 100000
set_option maxHeartbeats 2000000
namespace PV
open PySem
def hv (v : List Int) : D := .tup (v.map .int)
def vecStep (found : List (List Int)) (m : Int) : List (List Int) := found.flatMap fun row => (List.range (m + 1).toNat).map fun j : Nat => row ++ [(j : Int)]
def vecs (l : List Int) : List (List Int) := l.foldl vecStep [[]]
structure Lim (l : List Int) : Prop where
  pos : ∀ m ∈ l, 0 ≤ m
  le : ∀ m ∈ l, m ≤ 1000
  sz : ∀ i, (vecs (l.take i)).length ≤ 1000
  ln : l.length ≤ 10
theorem vecs_snoc (l : List Int) (m : Int) : vecs (l ++ [m]) = vecStep (vecs l) m := by
  simp [vecs]
theorem take_snoc {l : List Int} {i : Nat} {m : Int} (h : l[i]? = some m) : l.take (i + 1) = l.take i ++ [m] := by
  rw [List.take_add_one, h]
  rfl
theorem step_len {n : Nat} {F : List (List Int)} {m : Int} (h : ∀ v ∈ F, v.length = n) : ∀ v ∈ vecStep F m, v.length = n + 1 := fun v hv => by
  obtain ⟨row, h1, h2⟩ := List.mem_flatMap.mp hv
  obtain ⟨j, _, rfl⟩ := List.mem_map.mp h2
  simp [h row h1]
theorem vecs_lenG : ∀ (l : List Int) (F : List (List Int)) (n : Nat), (∀ v ∈ F, v.length = n) → ∀ v ∈ l.foldl vecStep F, v.length = n + l.length
  | [], F, n, h, v, hv => h v hv
  | m :: l, F, n, h, v, hv => by
    have := vecs_lenG l _ (n + 1) (step_len (m := m) h) v hv
    simp
    omega
theorem vecs_len (l : List Int) : ∀ v ∈ vecs l, v.length = l.length := fun v hv => by
  have := vecs_lenG l [[]] 0 (by simp) v hv
  omega
theorem hv_imm (v : List Int) : (hv v).imm = true := by
  show D.immL _ = true
  exact imm_ints v
theorem hvs_imm : ∀ l : List (List Int), D.immL (l.map hv) = true
  | [] => rfl
  | v :: l => by
    simp only [List.map_cons, D.immL, hv_imm, hvs_imm l, Bool.and_self]
section
variable {b : List MO} {pg : Pg} {k : Nat} {s : HS b} {E : XW b}
def bVecs : List CS := [(.set (.nm 1) (.lst [.tup []])), (.for_ (.nm 2) .val [.var 0] [(.set (.nm 1) (.lc2 (.nm 3) .val [.var 1] [] (.nm 4) .range [.bin .add (.var 2) (.cst (.int 1))] [] (.bin .add (.var 3) (.tup [.var 4])) [3, 4] [4]))]), (.ret (.var 1))]
theorem rng_at (n : Nat) (i : Nat) (s : HS b) : (Src.rng 0 n).at i s = some ((List.range n).map fun j : Nat => D.int j)[i]? := by
  simp only [Src.at, List.getElem?_map]
  by_cases h : i < n
  · simp [h]
  · simp [h]
theorem flat_snoc {α β : Type} {xs : List α} {i : Nat} {x : α} (h : xs[i]? = some x) (g : α → List β) : (xs.take (i + 1)).flatMap g = (xs.take i).flatMap g ++ g x := by
  rw [List.take_add_one, h]
  simp
theorem flat_le {α β : Type} (xs : List α) (i : Nat) (g : α → List β) : ((xs.take i).flatMap g).length ≤ (xs.flatMap g).length := by
  have : xs.flatMap g = (xs.take i).flatMap g ++ (xs.drop i).flatMap g := by
    rw [← List.flatMap_append, List.take_append_drop]
  rw [this, List.length_append]
  omega
theorem w_vecs {f : Nat} {l : List Int} {Q : D → HS b → Prop} (hf : pg.tb f = some ⟨1, 5, bVecs⟩) (fu : pg.fu = 1000000) (hl : Lim l) (q : Q (.ref s.M.length) (s.alloc (.lst true ((vecs l).map hv)))) : W (callF pg (k + 1) f [hv l] s) Q E := by
  refine W_call hf rfl ?_
  walk_at "w0"
  show WS (exB _ _ [_, _, _] _ _) _ _ _
  walk_at "ww"
  show WS (forL (Src.its (l.map D.int)).at _ _ _ _ _) _ _ _
  refine z_its (fun i e1 s1 => ∃ q o2, e1 = [some (hv l), some (.ref q), o2, none, none] ∧ s1.lo = s.M.length ∧ s.M.length ≤ q ∧ s1.M[q]? = some (.lst true ((vecs (l.take i)).map hv))) ⟨s.M.length, none, rfl, rfl, Nat.le_refl _, by simp [HS.start, vecs, hv]⟩ (by rw [List.length_map]; have := hl.ln; show l.length < pg.fu; omega) ?_ ?_
  · rintro i d e1 s1 hd ⟨p, o2, rfl, hlo, hp, hm⟩
    rw [List.getElem?_map] at hd
    cases hli : l[i]? with
    | none => rw [hli] at hd; cases hd
    | some m =>
      rw [hli] at hd
      cases hd
      have hmem := List.mem_of_getElem? hli
      have m0 := hl.pos m hmem
      have m1 := hl.le m hmem
      refine z_turn (tg := .nm 2) (e1 := [some (hv l), some (.ref p), some (.int m), none, none]) rfl ?_
      walk_at "ww"
      refine w_lc2 ?_
      walk_at "ww"
      refine w_srcL hm ?_
      have hnext : vecs (l.take (i + 1)) = vecStep (vecs (l.take i)) m := by rw [take_snoc hli, vecs_snoc]
      have hsz := hl.sz (i + 1)
      rw [hnext] at hsz
      refine lc2L_W (vecs (l.take i)).length (fun j acc s2 => s2 = s1 ∧ j ≤ (vecs (l.take i)).length ∧ acc = (((vecs (l.take i)).take j).flatMap fun row => (List.range (m + 1).toNat).map fun j : Nat => row ++ [(j : Int)]).map hv) ?_ _ 0 [] s1 (by have := hl.sz i; show _ < pg.fu + 0; omega) ⟨rfl, Nat.zero_le _, rfl⟩
      rintro j acc s2 ⟨rfl, hj, rfl⟩
      refine ⟨hj, ?_⟩
      by_cases hjl : j < (vecs (l.take i)).length
      · have hrow : (vecs (l.take i))[j]? = some (vecs (l.take i))[j] := List.getElem?_eq_getElem hjl
        refine .inr ⟨hjl, hv (vecs (l.take i))[j], by simp only [Src.at, hm, List.getElem?_map, hrow, Option.map_some], ?_⟩
        generalize (vecs (l.take i))[j] = row at hrow
        refine w_turnO rfl ?_
        simp only [wipeE, List.set_cons_succ, List.set_cons_zero]
        walk_at "ww"
        refine w_srcR (by omega) (by omega) ?_
        refine w_lcpA (xs := (List.range (m + 1).toNat).map fun j : Nat => D.int j) (fun d => match d with | .int x => some (hv (row ++ [x])) | _ => none) (fun i => rng_at _ i _) (by simp; show _ < pg.fu; omega) (fun d hd => ?_) ?_
        · obtain ⟨x, hx, rfl⟩ := List.mem_map.mp hd
          refine w_turn rfl ?_
          simp only [List.set_cons_succ, List.set_cons_zero]
          walk_at "ww"
          refine w_addT ?_ ⟨?_, rfl⟩
          · refine so_le ?_
            have h1 := vecs_len _ _ (List.mem_of_getElem? hrow)
            have h2 := hl.ln
            have h3 := List.length_take_le' i l
            simp only [List.length_map, List.length_cons, List.length_nil]
            omega
          · simp [hv]
        · have e1 : ((List.range (m + 1).toNat).map fun j : Nat => D.int j).filterMap (fun d => match d with | .int x => some (hv (row ++ [x])) | _ => none) = ((List.range (m + 1).toNat).map fun j : Nat => row ++ [(j : Int)]).map hv := by
            rw [List.filterMap_map, List.map_map, ← List.filterMap_eq_map]
            rfl
          rw [e1, ← List.map_append, ← flat_snoc hrow]
          refine ⟨?_, rfl, hjl, rfl⟩
          rw [List.length_map]
          have := flat_le (vecs (l.take i)) (j + 1) fun row => (List.range (m + 1).toNat).map fun j : Nat => row ++ [(j : Int)]
          have h2 : (vecStep (vecs (l.take i)) m).length = ((vecs (l.take i)).flatMap fun row => (List.range (m + 1).toNat).map fun j : Nat => row ++ [(j : Int)]).length := rfl
          show _ ≤ pg.fu
          omega
      · have hje : j = (vecs (l.take i)).length := by omega
        refine .inl ⟨by simp [Src.at, hm, hje], ?_⟩
        refine ⟨s2.M.length, _, rfl, hlo, ?_, ?_⟩
        · have := at_lt hm
          omega
        · rw [hnext, hje, List.take_length]
          simp [vecStep]
  · rintro e1 s1 ⟨p, o2, rfl, hlo, hp, hm⟩
    walk_at "ww"
    rw [List.length_map, List.take_length] at hm
    exact f_lst hlo hp hm (hvs_imm _) q
def keyP (v : List Int) : PyData := .tuple [.int v.sum, pdD (hv v)]
def keyD (v : List Int) : D := .tup [.int v.sum, hv v]
theorem pdI (v : List Int) : pdD (hv v) = .tuple (v.map PyData.int) := by
  show PyData.tuple (pdL _) = _
  rw [pdL_map, List.map_map]
  rfl
theorem alikeI : ∀ v w : List Int, PySem.W.alikeAll (v.map PyData.int) (w.map PyData.int) = true
  | [], _ => by simp [PySem.W.alikeAll]
  | _ :: _, [] => by simp [PySem.W.alikeAll]
  | x :: v, y :: w => by simp [PySem.W.alikeAll, PySem.W.alike, alikeI v w]
theorem key_alike (v w : List Int) : PySem.W.alike (keyP v) (keyP w) = true := by
  simp [keyP, PySem.W.alike, PySem.W.alikeAll, pdI, alikeI]
theorem key_keys (F : List (List Int)) : alikeB (F.map keyP) = true ∧ sortB (F.map keyP) = true := by
  constructor
  · simp only [alikeB, List.all_eq_true, List.mem_map]
    rintro _ ⟨v, _, rfl⟩ _ ⟨w, _, rfl⟩
    exact key_alike v w
  · simp only [sortB, Bool.or_eq_true, List.all_eq_true, List.mem_map]
    refine .inl ?_
    rintro _ ⟨v, _, rfl⟩
    rfl
theorem depI : ∀ v : List Int, PyData.depthAll (v.map PyData.int) ≤ 1
  | [] => by simp [PyData.depthAll]
  | x :: v => by
    have := depI v
    simp [PyData.depthAll, PyData.depth]
    omega
theorem key_depth (v : List Int) : (keyP v).depth ≤ 64 := by
  have := depI v
  simp [keyP, pdI, PyData.depth, PyData.depthAll]
  omega
theorem key_ok (F : List (List Int)) : (alikeB (F.map keyP) && sortB (F.map keyP) && (F.map keyP).all fun d => decide (d.depth ≤ 64)) = true := by
  rw [(key_keys F).1, (key_keys F).2]
  simp only [Bool.and_self, Bool.true_and, List.all_eq_true, List.mem_map]
  rintro _ ⟨v, _, rfl⟩
  exact decide_eq_true (key_depth v)
def srtH (F : List (List Int)) : List (List Int) := F.mergeSort (PySem.W.dataLe false keyP)
theorem inOrder_hv (F : List (List Int)) : inOrder (F.map hv) (F.map keyP) = (srtH F).map hv := by
  have e : (F.map hv).zip (F.map keyP) = F.map fun v => (hv v, keyP v) := by rw [List.zip_map']
  unfold inOrder srtH
  rw [e, ← map_merge (fun v : List Int => (hv v, keyP v)) (PySem.W.dataLe false keyP) (PySem.W.dataLe false Prod.snd) (fun _ _ => rfl), List.map_map]
  rfl
def hps (l : List Int) : List (List Int) := srtH ((vecs l).filter fun v => v.any (· != 0))
theorem asI (v : List Int) : asInts (v.map D.int) = some v := asInts_map v
def bKey : List CS := [(.ret (.tup [.bi .sum [.var 0], .var 0]))]
theorem w_key {f : Nat} {v : List Int} {Q : D → HS b → Prop} (hf : pg.tb f = some ⟨1, 1, bKey⟩) (q : Q (keyD v) s) : W (callF pg (k + 1) f [hv v] s) Q E := by
  refine W_call hf rfl ?_
  walk_at "w0"
  show WS (exB _ _ [_] _ _) _ _ _
  walk_at "ww"
  refine w_sum (ys := v.map D.int) rfl (asI v) ?_
  walk_at "ww"
  exact f_imm rfl (by simp [D.imm, D.immL, hv_imm]) q
theorem key_deep (M : List MO) (F : List (List Int)) : deepWL (deepR M 8) (F.map keyD) = some (F.map keyP) := by
  have h : D.immL (F.map keyD) = true := by
    induction F with
    | nil => rfl
    | cons v F ih => simp [D.immL, D.imm, keyD, hv_imm] at ih ⊢; exact ih
  rw [deepWL_imm _ _ h, pdL_map, List.map_map]
  rfl
def kfD : D → D
  | .tup xs => match asInts xs with
    | some v => keyD v
    | none => .non
  | _ => .non
theorem kf_hv (v : List Int) : kfD (hv v) = keyD v := by
  show (match asInts (v.map D.int) with | some v => keyD v | none => .non) = _
  rw [asI]
theorem kf_map (F : List (List Int)) : (F.map hv).map kfD = F.map keyD := by
  rw [List.map_map]
  exact List.map_congr_left fun v _ => kf_hv v
def bHeaps (fv fk : Nat) : List CS := [(.ret (.srtF fk (.lc (.nm 1) .val [.call fv [.var 0]] [.bi .any [.var 1]] (.var 1) [1])))]
theorem w_anyT {ys : List D} {ns : List Int} {Q : D → HS b → Prop} (hn : asInts ys = some ns) (h : Q (.bl ((ns.map (· != 0)).any id)) s) : W (PV.call .any [.tup ys] s) Q E := by
  simp only [PV.call, hn]
  exact h
theorem filt_hv (p : List Int → Bool) (g : D → Option D) (hg : ∀ v, g (hv v) = if p v then some (hv v) else none) : ∀ F : List (List Int), (F.map hv).filterMap g = (F.filter p).map hv
  | [] => rfl
  | v :: F => by
    simp only [List.map_cons, List.filterMap_cons, hg, List.filter_cons, filt_hv p g hg F]
    cases p v <;> simp
theorem w_heaps {fv fk f : Nat} {l : List Int} {Q : D → HS b → Prop} (hf : pg.tb f = some ⟨1, 2, bHeaps fv fk⟩) (hv' : pg.tb fv = some ⟨1, 5, bVecs⟩) (hk : pg.tb fk = some ⟨1, 1, bKey⟩) (fu : pg.fu = 1000000) (hl : Lim l) (q : Q (.ref s.M.length) (s.alloc (.lst true ((hps l).map hv)))) : W (callF pg (k + 2) f [hv l] s) Q E := by
  refine W_call hf rfl ?_
  walk_at "w0"
  show WS (exB _ _ [_] _ _) _ _ _
  walk_at "ww"
  refine w_srtF ?_
  walk_at "ww"
  refine w_vecs hv' fu hl ?_
  walk_at "ww"
  refine w_srcL (at_new _ _) ?_
  have hsz := hl.sz l.length
  rw [List.take_length] at hsz
  refine w_lcpl (fun d => match d with | .tup xs => (match asInts xs with | some v => if v.any (· != 0) then some d else none | none => none) | _ => none) (at_new _ _) (by rw [List.length_map]; show _ < pg.fu; omega) (fun d hd => ?_) ?_
  · obtain ⟨v, _, rfl⟩ := List.mem_map.mp hd
    refine w_turn (tg := .nm 1) (e1 := [some (hv l), some (hv v)]) rfl ?_
    walk_at "ww"
    refine w_anyT (asI v) ?_
    walk_at "ww"
    have e0 : (match hv v with | .tup xs => (match asInts xs with | some w => if w.any (· != 0) then some (hv v) else none | none => none) | _ => none) = if v.any (· != 0) then some (hv v) else none := by
      show (match asInts (v.map D.int) with | some w => if w.any (· != 0) then some (hv v) else none | none => none) = _
      rw [asI]
    have e2 : ((v.map (· != 0)).any id) = v.any (· != 0) := by simp
    rw [e2]
    refine ⟨fun z => ?_, fun z => ?_⟩
    · walk_at "ww"
      refine ⟨?_, rfl⟩
      rw [e0, z]
      rfl
    · refine ⟨?_, rfl⟩
      rw [e0, z]
      rfl
  · rw [filt_hv (fun v => v.any (· != 0)) _ (fun v => by
      show (match asInts (v.map D.int) with | some w => if w.any (· != 0) then some (hv v) else none | none => none) = _
      rw [asI])]
    refine w_srt (w := true) (kz := ((vecs l).filter fun v => v.any (· != 0)).map keyP) kfD (at_new _ _) (fun x hx => ?_) (by rw [kf_map]; exact key_deep _ _) (key_ok _) ?_
    · obtain ⟨v, _, rfl⟩ := List.mem_map.mp hx
      exact w_key hk ⟨(kf_hv v).symm, rfl⟩
    · walk_at "ww"
      rw [inOrder_hv]
      exact f_lst rfl (by simp [HS.start]) (at_new _ _) (hvs_imm _) q
end
end PV
set_option Elab.async false
set_option linter.all false
set_option maxRecDepth 100000
set_option maxHeartbeats 2000000
namespace PV
open PySem
def Bel : List Int → List Int → Prop
  | [], [] => True
  | t :: ts, m :: l => 0 ≤ t ∧ t ≤ m ∧ Bel ts l
  | _, _ => False
theorem mem_fold : ∀ (l : List Int) (F : List (List Int)) (v : List Int), v ∈ l.foldl vecStep F ↔ ∃ r, r ∈ F ∧ ∃ t, v = r ++ t ∧ Bel t l
  | [], F, v => by
    simp only [List.foldl_nil]
    constructor
    · intro h
      exact ⟨v, h, [], by simp, trivial⟩
    · rintro ⟨r, hr, t, rfl, ht⟩
      cases t with
      | nil => simpa using hr
      | cons x t => exact ht.elim
  | m :: l, F, v => by
    rw [List.foldl_cons, mem_fold l]
    constructor
    · rintro ⟨r', hr', t, rfl, ht⟩
      obtain ⟨r, hr, h2⟩ := List.mem_flatMap.mp hr'
      obtain ⟨j, hj, rfl⟩ := List.mem_map.mp h2
      have := List.mem_range.mp hj
      exact ⟨r, hr, (j : Int) :: t, by simp, by omega, by omega, ht⟩
    · rintro ⟨r, hr, t, rfl, ht⟩
      cases t with
      | nil => exact ht.elim
      | cons x t =>
        obtain ⟨h0, h1, ht⟩ := ht
        refine ⟨r ++ [x], List.mem_flatMap.mpr ⟨r, hr, List.mem_map.mpr ⟨x.toNat, List.mem_range.mpr (by omega), ?_⟩⟩, t, by simp, ht⟩
        rw [Int.toNat_of_nonneg h0]
theorem mem_vecs {l v : List Int} : v ∈ vecs l ↔ Bel v l := by
  unfold vecs
  rw [mem_fold]
  constructor
  · rintro ⟨r, hr, t, rfl, ht⟩
    have : r = [] := by simpa using hr
    subst this
    exact ht
  · intro h
    exact ⟨[], by simp, v, rfl, h⟩
def prodS : List Int → Nat
  | [] => 1
  | m :: l => (m + 1).toNat * prodS l
theorem len_fold : ∀ (l : List Int) (F : List (List Int)), (l.foldl vecStep F).length = F.length * prodS l
  | [], F => by simp [prodS]
  | m :: l, F => by
    rw [List.foldl_cons, len_fold l]
    have : (vecStep F m).length = F.length * (m + 1).toNat := by
      induction F with
      | nil => simp [vecStep]
      | cons r F ih =>
        simp only [vecStep, List.flatMap_cons, List.length_append, List.length_map, List.length_range, List.length_cons] at ih ⊢
        rw [ih, Nat.succ_mul, Nat.add_comm]
    rw [this, prodS, Nat.mul_assoc]
theorem len_vecs (l : List Int) : (vecs l).length = prodS l := by
  unfold vecs
  rw [len_fold]
  simp
theorem prod_pos : ∀ {l : List Int}, (∀ m ∈ l, 0 ≤ m) → 1 ≤ prodS l
  | [], _ => Nat.le_refl _
  | m :: l, h => by
    have h1 := prod_pos fun x hx => h x (List.mem_cons_of_mem _ hx)
    have h2 := h m List.mem_cons_self
    have h3 : 1 ≤ (m + 1).toNat := by omega
    exact Nat.mul_le_mul h3 h1
theorem prod_take : ∀ {l : List Int} (i : Nat), (∀ m ∈ l, 0 ≤ m) → prodS (l.take i) ≤ prodS l
  | [], i, _ => by simp
  | m :: l, 0, h => prod_pos h
  | m :: l, i + 1, h => Nat.mul_le_mul (Nat.le_refl _) (prod_take i fun x hx => h x (List.mem_cons_of_mem _ hx))
theorem prod_mem : ∀ {l : List Int}, (∀ m ∈ l, 0 ≤ m) → ∀ m ∈ l, m + 1 ≤ prodS l
  | x :: l, h, m, hm => by
    have h2 := h x List.mem_cons_self
    have hp := prod_pos fun x hx => h x (List.mem_cons_of_mem _ hx)
    rcases List.mem_cons.mp hm with rfl | hm
    · have : (m + 1).toNat * 1 ≤ (m + 1).toNat * prodS l := Nat.mul_le_mul (Nat.le_refl _) hp
      show m + 1 ≤ (((m + 1).toNat * prodS l : Nat) : Int)
      omega
    · have ih := prod_mem (fun x hx => h x (List.mem_cons_of_mem _ hx)) m hm
      have h3 : 1 ≤ (x + 1).toNat := by omega
      have : 1 * prodS l ≤ (x + 1).toNat * prodS l := Nat.mul_le_mul h3 (Nat.le_refl _)
      show m + 1 ≤ (((x + 1).toNat * prodS l : Nat) : Int)
      omega
theorem lim_of {l : List Int} (h : ∀ m ∈ l, 0 ≤ m) (hp : prodS l ≤ 1000) (hl : l.length ≤ 10) : Lim l :=
  ⟨h, fun m hm => by have := prod_mem h m hm; omega, fun i => by rw [len_vecs]; exact Nat.le_trans (prod_take i h) hp, hl⟩
theorem Bel.pos : ∀ {v l : List Int}, Bel v l → ∀ x ∈ v, 0 ≤ x
  | [], [], _, x, hx => by cases hx
  | t :: ts, m :: l, h, x, hx => by
    rcases List.mem_cons.mp hx with rfl | hx
    · exact h.1
    · exact Bel.pos h.2.2 x hx
  | [], _ :: _, h, _, _ => h.elim
  | _ :: _, [], h, _, _ => h.elim
theorem Bel.len : ∀ {v l : List Int}, Bel v l → v.length = l.length
  | [], [], _ => rfl
  | t :: ts, m :: l, h => by simp [Bel.len h.2.2]
  | [], _ :: _, h => h.elim
  | _ :: _, [], h => h.elim
theorem Bel.prod : ∀ {v l : List Int}, Bel v l → prodS v ≤ prodS l
  | [], [], _ => Nat.le_refl _
  | t :: ts, m :: l, h => Nat.mul_le_mul (by have := h.1; have := h.2.1; omega) (Bel.prod h.2.2)
  | [], _ :: _, h => h.elim
  | _ :: _, [], h => h.elim
theorem Bel.sum : ∀ {v l : List Int}, Bel v l → v.sum ≤ l.sum ∧ (v.sum = l.sum → v = l)
  | [], [], _ => ⟨Int.le_refl _, fun _ => rfl⟩
  | t :: ts, m :: l, h => by
    obtain ⟨h1, h2⟩ := Bel.sum h.2.2
    have := h.2.1
    simp only [List.sum_cons]
    refine ⟨by omega, fun e => ?_⟩
    have e1 : t = m := by omega
    have e2 : ts.sum = l.sum := by omega
    rw [e1, h2 e2]
  | [], _ :: _, h => h.elim
  | _ :: _, [], h => h.elim
theorem Bel.refl : ∀ {l : List Int}, (∀ m ∈ l, 0 ≤ m) → Bel l l
  | [], _ => trivial
  | m :: l, h => ⟨h m List.mem_cons_self, Int.le_refl _, Bel.refl fun x hx => h x (List.mem_cons_of_mem _ hx)⟩
theorem Bel.lim {v l : List Int} (h : Bel v l) (hl : prodS l ≤ 1000) (hn : l.length ≤ 10) : Lim v :=
  lim_of h.pos (Nat.le_trans h.prod hl) (by rw [h.len]; exact hn)
theorem le_sum {v w : List Int} (h : v.sum < w.sum) : PySem.W.dataLe false keyP w v = false := by
  have e : PySem.W.dataLe false keyP w v = !(PyProof.Rows.lexLt PyProof.Rows.itemOrd (PySem.W.keyToks (keyP v)) (PySem.W.keyToks (keyP w))) := rfl
  rw [e]
  simp [keyP, PySem.W.keyToks, PySem.W.keyToksAll, PyProof.Rows.lexLt, PyProof.Rows.itemLt, h]
theorem nodup_step {F : List (List Int)} {m : Int} (h : F.Nodup) : (vecStep F m).Nodup := by
  unfold vecStep List.Nodup
  rw [List.pairwise_flatMap]
  refine ⟨fun r _ => ?_, ?_⟩
  · rw [List.pairwise_map]
    refine List.Pairwise.imp ?_ (List.nodup_range (n := (m + 1).toNat))
    intro a c hac e
    apply hac
    have e2 := List.append_cancel_left e
    simp at e2
    omega
  · refine List.Pairwise.imp ?_ h
    intro a c hac x hx y hy e
    apply hac
    obtain ⟨j, _, rfl⟩ := List.mem_map.mp hx
    obtain ⟨j', _, rfl⟩ := List.mem_map.mp hy
    exact (List.append_inj' e rfl).1
theorem nodup_fold : ∀ (l : List Int) (F : List (List Int)), F.Nodup → (l.foldl vecStep F).Nodup
  | [], F, h => h
  | m :: l, F, h => nodup_fold l _ (nodup_step h)
theorem nodup_vecs (l : List Int) : (vecs l).Nodup := nodup_fold l _ (by simp)
theorem mem_hps {l v : List Int} : v ∈ hps l ↔ Bel v l ∧ v.any (· != 0) = true := by
  unfold hps srtH
  rw [List.mem_mergeSort, List.mem_filter, mem_vecs]
theorem nodup_hps (l : List Int) : (hps l).Nodup := (List.mergeSort_perm _ _).nodup_iff.mpr ((nodup_vecs l).filter _)
theorem dle_trans (a c d : List Int) (h1 : PySem.W.dataLe false keyP a c = true) (h2 : PySem.W.dataLe false keyP c d = true) : PySem.W.dataLe false keyP a d = true := (PySem.W.sortLe_total _ _ _).trans a c d h1 h2
theorem dle_total (a c : List Int) : (PySem.W.dataLe false keyP a c || PySem.W.dataLe false keyP c a) = true := Bool.or_eq_true_iff.mpr ((PySem.W.sortLe_total _ _ _).total a c)
theorem sorted_hps (l : List Int) : (hps l).Pairwise fun a c => PySem.W.dataLe false keyP a c = true := List.pairwise_mergeSort dle_trans dle_total _
theorem hps_last {w : List Int} (h0 : ∀ m ∈ w, 0 ≤ m) (h1 : w.any (· != 0) = true) : ∃ A, hps w = A ++ [w] ∧ w ∉ A := by
  have hw : w ∈ hps w := mem_hps.mpr ⟨Bel.refl h0, h1⟩
  have hne : hps w ≠ [] := fun z => by rw [z] at hw; cases hw
  have hd := List.dropLast_concat_getLast hne
  have hlast : (hps w).getLast hne = w := by
    by_cases hz : (hps w).getLast hne = w
    · exact hz
    · have hm : w ∈ (hps w).dropLast := by
        rw [← hd] at hw
        rcases List.mem_append.mp hw with z | z
        · exact z
        · exact absurd (List.mem_singleton.mp z).symm hz
      have hs := sorted_hps w
      rw [← hd, List.pairwise_append] at hs
      have hle := hs.2.2 w hm _ (List.mem_singleton.mpr rfl)
      have hb := (mem_hps.mp (List.getLast_mem hne)).1
      have hsum := hb.sum
      have : ((hps w).getLast hne).sum < w.sum := by
        have h2 := hsum.1
        have h3 : ((hps w).getLast hne).sum ≠ w.sum := fun e => hz (hsum.2 e)
        omega
      rw [le_sum this] at hle
      cases hle
  refine ⟨(hps w).dropLast, by rw [hlast] at hd; exact hd.symm, fun z => ?_⟩
  have nd := nodup_hps w
  rw [← hd, hlast, List.nodup_append] at nd
  exact nd.2.2 w z w (List.mem_singleton.mpr rfl) rfl
def prts (w : List Int) : List (List Int) := (hps w).dropLast
theorem prts_filter {w : List Int} (h0 : ∀ m ∈ w, 0 ≤ m) (h1 : w.any (· != 0) = true) : (hps w).filter (fun v => decide (v ≠ w)) = prts w := by
  obtain ⟨A, e, hn⟩ := hps_last h0 h1
  unfold prts
  rw [e, List.filter_append, List.dropLast_concat]
  have e1 : A.filter (fun v => decide (v ≠ w)) = A := List.filter_eq_self.mpr fun v hv => decide_eq_true fun z => hn (by rw [← z]; exact hv)
  rw [e1]
  simp
def diff (w v : List Int) : List Int := List.zipWith (· - ·) w v
def pv (p : List Int × List Int) : D := .tup [hv p.1, hv p.2]
def prs (l : List Int) : List (List Int × List Int) := (hps l).flatMap fun w => (prts w).map fun v => (v, diff w v)
theorem pv_imm (p : List Int × List Int) : (pv p).imm = true := by simp [pv, D.imm, D.immL, hv_imm]
theorem pvs_imm : ∀ l : List (List Int × List Int), D.immL (l.map pv) = true
  | [] => rfl
  | v :: l => by
    simp only [List.map_cons, D.immL, pv_imm, pvs_imm l, Bool.and_self]
section
variable {b : List MO} {pg : Pg} {k : Nat} {s : HS b} {E : XW b}
def bSub : List CS := [(.ret (.bi .tuple [.lc (.tp [2, 3]) .zipS [.var 0, .var 1] [] (.bin .sub (.var 2) (.var 3)) [2, 3]]))]
def bLess : List CS := [(.ret (.bi .tuple [.lc (.tp [2, 3]) .zip [.var 0, .var 1] [] (.bin .sub (.var 2) (.var 3)) [2, 3]]))]
def subD : D → Option D
  | .tup [.int x, .int y] => some (.int (x - y))
  | _ => none
theorem zip_sub : ∀ w v : List Int, (List.zipWith (fun x y => D.tup [x, y]) (w.map D.int) (v.map D.int)).filterMap subD = (diff w v).map D.int
  | [], _ => by simp [diff]
  | _ :: _, [] => by simp [diff]
  | x :: w, y :: v => by
    have := zip_sub w v
    simp only [List.map_cons, List.zipWith_cons_cons, List.filterMap_cons, subD, diff] at this ⊢
    rw [this]
theorem mem_zip {w v : List Int} {d : D} (h : d ∈ List.zipWith (fun x y => D.tup [x, y]) (w.map D.int) (v.map D.int)) : ∃ x y : Int, d = .tup [.int x, .int y] := by
  obtain ⟨i, hi⟩ := List.getElem?_of_mem h
  rw [List.getElem?_zipWith] at hi
  simp only [List.getElem?_map] at hi
  cases h1 : w[i]? <;> cases h2 : v[i]? <;> simp [h1, h2] at hi
  exact ⟨_, _, hi.symm⟩
theorem zip_turn {P : Ev} {o2 o3 : Option D} {w v : List Int} {d : D} (s : HS b) (h : d ∈ List.zipWith (fun x y => D.tup [x, y]) (w.map D.int) (v.map D.int)) : W (turnC P (.tp [2, 3]) [] (.bin .sub (.var 2) (.var 3)) [some (hv w), some (hv v), none, none] d s) (fun r s1 => r = subD d ∧ s1 = s) X0 := by
  obtain ⟨x, y, rfl⟩ := mem_zip h
  refine w_turn (e1 := [some (hv w), some (hv v), some (.int x), some (.int y)]) rfl ?_
  walk_at "ww"
  exact ⟨rfl, rfl⟩
theorem w_sub2 {f : Nat} {w v : List Int} {Q : D → HS b → Prop} (hf : pg.tb f = some ⟨2, 4, bSub⟩) (fu : pg.fu = 1000000) (hl : w.length = v.length) (hn : w.length ≤ 1000) (q : Q (hv (diff w v)) s) : W (callF pg (k + 1) f [hv w, hv v] s) Q E := by
  refine W_call hf rfl ?_
  walk_at "w0"
  show WS (exB _ _ [_] _ _) _ _ _
  walk_at "ww"
  refine w_srcZS (xs := w.map D.int) (ys := v.map D.int) (by simp [hl]) ?_
  refine w_lcp subD (by simp; show _ < pg.fu; omega) (fun d hd => zip_turn (o2 := none) (o3 := none) _ hd) ?_
  rw [zip_sub]
  refine w_tuple (ys := (diff w v).map D.int) (by simp [items, HS.start]) ?_
  exact f_imm rfl (hv_imm _) q
theorem w_less {f : Nat} {w v : List Int} {Q : D → HS b → Prop} (hf : pg.tb f = some ⟨2, 4, bLess⟩) (fu : pg.fu = 1000000) (hn : w.length ≤ 1000) (q : Q (hv (diff w v)) s) : W (callF pg (k + 1) f [hv w, hv v] s) Q E := by
  refine W_call hf rfl ?_
  walk_at "w0"
  show WS (exB _ _ [_] _ _) _ _ _
  walk_at "ww"
  refine w_srcZ (xs := w.map D.int) (ys := v.map D.int) ?_
  refine w_lcp subD (by simp; show _ < pg.fu; omega) (fun d hd => zip_turn (o2 := none) (o3 := none) _ hd) ?_
  rw [zip_sub]
  refine w_tuple (ys := (diff w v).map D.int) (by simp [items, HS.start]) ?_
  exact f_imm rfl (hv_imm _) q
def bParts (f5 : Nat) : List CS := [(.ret (.slc (.call f5 [.var 0]) none (some (.neg (.cst (.int 1))))))]
theorem cut_last (xs : List D) : cutD xs none (some (-1)) = xs.dropLast := by
  unfold cutD
  simp only [HT.sIx, List.drop_zero, Nat.sub_zero, List.dropLast_eq_take]
  rw [if_pos (by decide)]
  congr 1
  omega
theorem w_parts {fv fk fh f : Nat} {l : List Int} {Q : D → HS b → Prop} (hf : pg.tb f = some ⟨1, 1, bParts fh⟩) (hh : pg.tb fh = some ⟨1, 2, bHeaps fv fk⟩) (hv' : pg.tb fv = some ⟨1, 5, bVecs⟩) (hk : pg.tb fk = some ⟨1, 1, bKey⟩) (fu : pg.fu = 1000000) (hl : Lim l) (q : Q (.ref s.M.length) (s.alloc (.lst true ((prts l).map hv)))) : W (callF pg (k + 3) f [hv l] s) Q E := by
  refine W_call hf rfl ?_
  walk_at "w0"
  show WS (exB _ _ [_] _ _) _ _ _
  walk_at "ww"
  refine w_heaps (k := k) hh hv' hk fu hl ?_
  walk_at "ww"
  refine w_slL (at_new _ _) ?_
  rw [cut_last, ← List.map_dropLast]
  exact f_lst rfl (by simp [HS.start]) (at_new _ _) (hvs_imm _) q
end
end PV
set_option Elab.async false
set_option linter.all false
set_option maxRecDepth 100000
set_option maxHeartbeats 2000000
namespace PV
open PySem
theorem flat_len {α β : Type} {c : Nat} {g : α → List β} : ∀ {xs : List α}, (∀ x ∈ xs, (g x).length ≤ c) → (xs.flatMap g).length ≤ xs.length * c
  | [], _ => by simp
  | x :: xs, h => by
    have h1 := h x List.mem_cons_self
    have h2 := flat_len fun y hy => h y (List.mem_cons_of_mem _ hy)
    simp only [List.flatMap_cons, List.length_append, List.length_cons, Nat.succ_mul]
    omega
theorem hps_len (l : List Int) : (hps l).length ≤ prodS l := by
  unfold hps srtH
  rw [List.length_mergeSort, ← len_vecs]
  exact List.length_filter_le _ _
theorem prts_len (l : List Int) : (prts l).length ≤ prodS l := by
  unfold prts
  rw [List.length_dropLast]
  have := hps_len l
  omega
theorem mem_prts {v w : List Int} (h : v ∈ prts w) : Bel v w := (mem_hps.mp (List.dropLast_subset _ h)).1
section
variable {b : List MO} {pg : Pg} {k : Nat} {s : HS b} {E : XW b}
def bPairs (fc fh fp fs : Nat) : List CS := [(.exp (.call fc [.var 0])), (.ret (.lc2 (.nm 1) .val [.call fh [.var 0]] [] (.nm 2) .val [.call fp [.var 1]] [] (.tup [.var 2, .call fs [.var 1, .var 2]]) [1, 2] [2]))]
def pairD (w : List Int) : D → Option D
  | .tup xs => match asInts xs with
    | some v => some (pv (v, diff w v))
    | none => none
  | _ => none
theorem pairD_hv (w v : List Int) : pairD w (hv v) = some (pv (v, diff w v)) := by
  show (match asInts (v.map D.int) with | some v => some (pv (v, diff w v)) | none => none) = _
  rw [asI]
theorem pairD_map (w : List Int) (F : List (List Int)) : (F.map hv).filterMap (pairD w) = (F.map fun v => (v, diff w v)).map pv := by
  rw [List.filterMap_map, List.map_map, ← List.filterMap_eq_map]
  congr 1
  funext v
  exact pairD_hv w v
theorem w_pairs {fv fk fh fp fs fc f : Nat} {l : List Int} {Q : D → HS b → Prop} (hf : pg.tb f = some ⟨1, 3, bPairs fc fh fp fs⟩) (hh : pg.tb fh = some ⟨1, 2, bHeaps fv fk⟩) (hp : pg.tb fp = some ⟨1, 1, bParts fh⟩) (hs : pg.tb fs = some ⟨2, 4, bSub⟩) (hv' : pg.tb fv = some ⟨1, 5, bVecs⟩) (hk : pg.tb fk = some ⟨1, 1, bKey⟩) (fu : pg.fu = 1000000)
    (h0 : ∀ m ∈ l, 0 ≤ m) (hz : prodS l ≤ 1000) (hn : l.length ≤ 10) (hc : ∀ s0 : HS s.M, callF pg (k + 3) fc [hv l] s0 = ret .non s0) (q : Q (.ref s.M.length) (s.alloc (.lst true ((prs l).map pv)))) : W (callF pg (k + 4) f [hv l] s) Q E := by
  have hl : Lim l := lim_of h0 hz hn
  refine W_call hf rfl ?_
  walk_at "w0"
  show WS (exB _ _ [_, _] _ _) _ _ _
  walk_at "ww"
  refine w_is (hc _) ?_
  walk_at "ww"
  refine w_lc2 ?_
  walk_at "ww"
  refine w_heaps (k := k + 1) hh hv' hk fu hl ?_
  walk_at "ww"
  refine w_srcL (at_new _ _) ?_
  have hlen := hps_len l
  have htot : (prs l).length ≤ 1000000 := by
    have h1 : (prs l).length ≤ (hps l).length * 1000 := flat_len fun w hw => by
      rw [List.length_map]
      exact Nat.le_trans (prts_len w) (Nat.le_trans (mem_hps.mp hw).1.prod hz)
    have h2 : (hps l).length * 1000 ≤ 1000 * 1000 := Nat.mul_le_mul (by omega) (Nat.le_refl _)
    omega
  refine lc2L_W (hps l).length (fun j acc s2 => s2.lo = s.M.length ∧ s.M.length ≤ s2.M.length ∧ s2.M[s.M.length]? = some (.lst true ((hps l).map hv)) ∧ j ≤ (hps l).length ∧ acc = (((hps l).take j).flatMap fun w => (prts w).map fun v => (v, diff w v)).map pv) ?_ _ 0 [] _ (by show _ < pg.fu + 0; omega)
    ⟨rfl, by simp [HS.start, HS.alloc], by simp [HS.start, HS.alloc], Nat.zero_le _, rfl⟩
  rintro j acc s2 ⟨hlo, hle, hm, hj, rfl⟩
  refine ⟨hj, ?_⟩
  by_cases hjl : j < (hps l).length
  · have hrow : (hps l)[j]? = some (hps l)[j] := List.getElem?_eq_getElem hjl
    refine .inr ⟨hjl, hv (hps l)[j], by
      show (match s2.M[s.M.length]? with | some (.lst _ xs) => some xs[j]? | _ => none) = _
      simp only [hm, List.getElem?_map, hrow, Option.map_some], ?_⟩
    generalize (hps l)[j] = w at hrow
    have hw := mem_hps.mp (List.mem_of_getElem? hrow)
    have lw : Lim w := hw.1.lim hz hn
    refine w_turnO (e1 := [some (hv l), some (hv w), none]) rfl ?_
    simp only [wipeE, List.set_cons_succ, List.set_cons_zero]
    walk_at "ww"
    refine w_parts (k := k) hp hh hv' hk fu lw ?_
    walk_at "ww"
    refine w_srcL (at_new _ _) ?_
    have hpl := Nat.le_trans (prts_len w) (Nat.le_trans hw.1.prod hz)
    refine w_lcpA (xs := (prts w).map hv) (pairD w) (fun i => by simp [Src.at, HS.alloc]) (by rw [List.length_map]; show _ < pg.fu; omega) (fun d hd => ?_) ?_
    · obtain ⟨v, hv1, rfl⟩ := List.mem_map.mp hd
      have hb := mem_prts hv1
      refine w_turn (e1 := [some (hv l), some (hv w), some (hv v)]) rfl ?_
      walk_at "ww"
      refine w_sub2 (k := k + 2) hs fu hb.len.symm (by have := lw.ln; omega) ?_
      walk_at "ww"
      exact ⟨(pairD_hv w v).symm, rfl⟩
    · rw [pairD_map, ← List.map_append, ← flat_snoc hrow fun w => (prts w).map fun v => (v, diff w v)]
      refine ⟨?_, hlo, ?_, at_alloc hm, hjl, rfl⟩
      · rw [List.length_map]
        have := flat_le (hps l) (j + 1) fun w => (prts w).map fun v => (v, diff w v)
        have h2 : (prs l).length = ((hps l).flatMap fun w => (prts w).map fun v => (v, diff w v)).length := rfl
        show _ ≤ pg.fu
        omega
      · simp [HS.alloc]
        omega
  · have hje : j = (hps l).length := by omega
    refine .inl ⟨by
      show (match s2.M[s.M.length]? with | some (.lst _ xs) => some xs[j]? | _ => none) = _
      simp [hm, hje], ?_⟩
    rw [hje, List.take_length]
    walk_at "ww"
    exact f_lst hlo hle (at_new _ _) (pvs_imm _) q
end
end PV
set_option Elab.async false
set_option linter.all false
set_option maxRecDepth 100000
set_option maxHeartbeats 2000000
namespace PV
open PySem
theorem sum_pos : ∀ {v : List Int}, (∀ x ∈ v, 0 ≤ x) → decide (0 < v.sum) = v.any (· != 0)
  | [], _ => rfl
  | x :: v, h => by
    have ih := sum_pos fun y hy => h y (List.mem_cons_of_mem _ hy)
    have hx := h x List.mem_cons_self
    have hs : 0 ≤ v.sum := by
      clear ih
      have h' : ∀ y ∈ v, 0 ≤ y := fun y hy => h y (List.mem_cons_of_mem _ hy)
      clear h
      induction v with
      | nil => simp
      | cons y v ih =>
        have h1 := h' y List.mem_cons_self
        have h2 := ih fun z hz => h' z (List.mem_cons_of_mem _ hz)
        simp only [List.sum_cons]
        omega
    rw [List.sum_cons, List.any_cons, ← ih]
    by_cases hx0 : x = 0
    · subst hx0
      simp
    · have h1 : (x != 0) = true := by simpa using hx0
      have h2 : 0 < x + v.sum := by omega
      rw [h1, decide_eq_true h2]
      rfl
section
variable {b : List MO} {pg : Pg} {k : Nat} {s : HS b} {E : XW b}
def bLHeaps : List CS := [(.set (.nm 1) (.lst [.tup []])), (.for_ (.nm 2) .val [.var 0] [(.set (.nm 3) (.lst [])), (.for_ (.nm 4) .val [.var 1] [(.set (.nm 3) (.bin .add (.var 3) (.lc (.nm 6) .range [.bin .add (.var 2) (.cst (.int 1))] [] (.bin .add (.var 4) (.tup [.var 6])) [6])))]), (.set (.nm 1) (.var 3))]), (.ret (.srtL (.tup [.bi .sum [.var 0], .var 0]) (.lc (.nm 5) .val [.var 1] [.cmp .gt (.bi .sum [.var 5]) (.cst (.int 0))] (.var 5) [5])))]
def rowD (row : List Int) : D → Option D
  | .int x => some (hv (row ++ [x]))
  | _ => none
theorem row_map (row : List Int) (n : Nat) : ((List.range n).map fun j : Nat => D.int j).filterMap (rowD row) = ((List.range n).map fun j : Nat => row ++ [(j : Int)]).map hv := by
  rw [List.filterMap_map, List.map_map, ← List.filterMap_eq_map]
  rfl
theorem w_lheaps {f : Nat} {l : List Int} {Q : D → HS b → Prop} (hf : pg.tb f = some ⟨1, 7, bLHeaps⟩) (fu : pg.fu = 1000000) (hl : Lim l) (q : Q (.ref s.M.length) (s.alloc (.lst true ((hps l).map hv)))) : W (callF pg (k + 1) f [hv l] s) Q E := by
  refine W_call hf rfl ?_
  walk_at "w0"
  show WS (exB _ _ [_, _, _] _ _) _ _ _
  walk_at "ww"
  show WS (forL (Src.its (l.map D.int)).at _ _ _ _ _) _ _ _
  refine z_its (fun i e1 s1 => ∃ q o2 o3 o4, e1 = [some (hv l), some (.ref q), o2, o3, o4, none, none] ∧ s1.lo = s.M.length ∧ s.M.length ≤ q ∧ s1.M[q]? = some (.lst true ((vecs (l.take i)).map hv))) ⟨s.M.length, none, none, none, rfl, rfl, Nat.le_refl _, by simp [HS.start, vecs, hv]⟩ (by rw [List.length_map]; have := hl.ln; show l.length < pg.fu; omega) ?_ ?_
  · rintro i d e1 s1 hd ⟨p, o2, o3, o4, rfl, hlo, hp, hm⟩
    rw [List.getElem?_map] at hd
    cases hli : l[i]? with
    | none => rw [hli] at hd; cases hd
    | some m =>
      rw [hli] at hd
      cases hd
      have hmem := List.mem_of_getElem? hli
      have m0 := hl.pos m hmem
      have m1 := hl.le m hmem
      refine z_turn (tg := .nm 2) (e1 := [some (hv l), some (.ref p), some (.int m), o3, o4, none, none]) rfl ?_
      walk_at "ww"
      refine w_srcL (at_alloc hm) ?_
      have hnext : vecs (l.take (i + 1)) = vecStep (vecs (l.take i)) m := by rw [take_snoc hli, vecs_snoc]
      have hsz := hl.sz (i + 1)
      rw [hnext] at hsz
      have hsi := hl.sz i
      refine z_live (xs := (vecs (l.take i)).map hv) (fun j e2 s2 => ∃ q3 o4, e2 = [some (hv l), some (.ref p), some (.int m), some (.ref q3), o4, none, none] ∧ s2.lo = s.M.length ∧ s.M.length ≤ q3 ∧ s2.M[p]? = some (.lst true ((vecs (l.take i)).map hv)) ∧
        s2.M[q3]? = some (.lst true ((((vecs (l.take i)).take j).flatMap fun row => (List.range (m + 1).toNat).map fun j : Nat => row ++ [(j : Int)]).map hv))) ⟨s1.M.length, o4, rfl, hlo, by have := at_lt hm; omega, at_alloc hm, at_new _ _⟩ (by rw [List.length_map]; show _ < pg.fu; omega) ?_ ?_ ?_
      · rintro j e2 s2 ⟨q3, o4, rfl, h1, h2, h3, h4⟩
        exact ⟨_, h3⟩
      · rintro j d e2 s2 hd ⟨q3, o4, rfl, h1, h2, h3, h4⟩
        rw [List.getElem?_map] at hd
        cases hrow : (vecs (l.take i))[j]? with
        | none => rw [hrow] at hd; cases hd
        | some row =>
          rw [hrow] at hd
          cases hd
          refine z_turn (tg := .nm 4) (e1 := [some (hv l), some (.ref p), some (.int m), some (.ref q3), some (hv row), none, none]) rfl ?_
          walk_at "ww"
          refine w_srcR (by omega) (by omega) ?_
          refine w_lcpA (xs := (List.range (m + 1).toNat).map fun j : Nat => D.int j) (rowD row) (fun i => rng_at _ i _) (by simp; show _ < pg.fu; omega) (fun d hd => ?_) ?_
          · obtain ⟨x, hx, rfl⟩ := List.mem_map.mp hd
            refine w_turn (tg := .nm 6) (e1 := [some (hv l), some (.ref p), some (.int m), some (.ref q3), some (hv row), none, some (.int x)]) rfl ?_
            walk_at "ww"
            refine w_addT ?_ ⟨?_, rfl⟩
            · refine so_le ?_
              have h1 := vecs_len _ _ (List.mem_of_getElem? hrow)
              have h2 := hl.ln
              have h3 := List.length_take_le' i l
              simp only [List.length_map, List.length_cons, List.length_nil]
              omega
            · simp [hv, rowD]
          · rw [List.nil_append, row_map]
            refine w_addL (at_alloc h4) (at_new _ _) ?_ ?_
            · refine so_le ?_
              have := flat_le (vecs (l.take i)) j fun row => (List.range (m + 1).toNat).map fun j : Nat => row ++ [(j : Int)]
              have h6 : (vecStep (vecs (l.take i)) m).length = ((vecs (l.take i)).flatMap fun row => (List.range (m + 1).toNat).map fun j : Nat => row ++ [(j : Int)]).length := rfl
              simp only [List.length_map, List.length_range] at this ⊢
              omega
            · walk_at "ww"
              refine ⟨_, _, rfl, h1, ?_, at_alloc (at_alloc h3), ?_⟩
              · have := at_lt h3
                simp only [HS.alloc, List.length_append, List.length_cons, List.length_nil]
                omega
              · rw [flat_snoc hrow, List.map_append]
                exact at_new _ _
      · rintro e2 s2 ⟨q3, o4, rfl, h1, h2, h3, h4⟩
        walk_at "ww"
        refine ⟨q3, _, _, _, rfl, h1, h2, ?_⟩
        rw [hnext]
        rw [List.length_map, List.take_length] at h4
        exact h4
  · rintro e1 s1 ⟨p, o2, o3, o4, rfl, hlo, hp, hm⟩
    rw [List.length_map, List.take_length] at hm
    walk_at "ww"
    refine w_srtL ?_
    walk_at "ww"
    refine w_srcL hm ?_
    have hsz := hl.sz l.length
    rw [List.take_length] at hsz
    refine w_lcpl (fun d => match d with | .tup xs => (match asInts xs with | some v => if decide (0 < v.sum) then some d else none | none => none) | _ => none) hm (by rw [List.length_map]; show _ < pg.fu; omega) (fun d hd => ?_) ?_
    · obtain ⟨v, _, rfl⟩ := List.mem_map.mp hd
      refine w_turn (tg := .nm 5) (e1 := [some (hv l), some (.ref p), o2, o3, o4, some (hv v), none]) rfl ?_
      walk_at "ww"
      refine w_sum (ys := v.map D.int) rfl (asI v) ?_
      walk_at "ww"
      have e0 : (match hv v with | .tup xs => (match asInts xs with | some w => if decide (0 < w.sum) then some (hv v) else none | none => none) | _ => none) = if decide (0 < v.sum) then some (hv v) else none := by
        show (match asInts (v.map D.int) with | some w => if decide (0 < w.sum) then some (hv v) else none | none => none) = _
        rw [asI]
      refine ⟨fun z => ?_, fun z => ?_⟩
      · walk_at "ww"
        refine ⟨?_, rfl⟩
        rw [e0, z]
        rfl
      · refine ⟨?_, rfl⟩
        rw [e0, z]
        rfl
    · rw [filt_hv (fun v => decide (0 < v.sum)) _ (fun v => by
        show (match asInts (v.map D.int) with | some w => if decide (0 < w.sum) then some (hv v) else none | none => none) = _
        rw [asI])]
      have ef : (vecs l).filter (fun v => decide (0 < v.sum)) = (vecs l).filter fun v => v.any (· != 0) := List.filter_congr fun v hv => sum_pos (mem_vecs.mp hv).pos
      rw [ef]
      refine w_srt (w := true) (kz := ((vecs l).filter fun v => v.any (· != 0)).map keyP) kfD (at_new _ _) (fun x hx => ?_) (by rw [kf_map]; exact key_deep _ _) (key_ok _) ?_
      · obtain ⟨v, _, rfl⟩ := List.mem_map.mp hx
        walk_at "ww"
        refine w_sum (ys := v.map D.int) rfl (asI v) ?_
        walk_at "ww"
        exact ⟨(kf_hv v).symm, rfl⟩
      · walk_at "ww"
        rw [inOrder_hv]
        refine f_lst hlo ?_ (at_new _ _) (hvs_imm _) q
        have := at_lt hm
        simp only [HS.alloc, List.length_append, List.length_cons, List.length_nil]
        omega
end
end PV
set_option Elab.async false
set_option linter.all false
set_option maxRecDepth 100000
set_option maxHeartbeats 2000000
namespace PV
open PySem
theorem eqv_ints : ∀ v w : List Int, PyData.eqvAll (v.map PyData.int) (w.map PyData.int) = decide (v = w)
  | [], [] => by simp [PyData.eqvAll]
  | [], _ :: _ => by simp [PyData.eqvAll]
  | _ :: _, [] => by simp [PyData.eqvAll]
  | x :: v, y :: w => by
    simp only [List.map_cons, PyData.eqvAll, PyData.eqv, eqv_ints v w, List.cons.injEq]
    by_cases h : x = y <;> simp [h]
theorem pl_hv (v : List Int) : Pl 2 (pdD (hv v)) := pl_tupl fun x hx => by
  obtain ⟨i, _, rfl⟩ := List.mem_map.mp hx
  exact pl_int i
theorem eqD_hv (M : List MO) (v w : List Int) : eqD M (hv v) (hv w) = some (decide (v = w)) := by
  rw [eqD_of (deep_imm M (hv_imm v)) (deep_imm M (hv_imm w)) (pl_hv v) (pl_hv w) (by decide) (by decide), pdI, pdI]
  simp only [PyData.eqv, eqv_ints]
section
variable {b : List MO} {pg : Pg} {k : Nat} {s : HS b} {E : XW b}
def bLParts (fh : Nat) : List CS := [(.ret (.lc (.nm 1) .val [.call fh [.var 0]] [.cmp .ne (.var 1) (.var 0)] (.var 1) [1]))]
theorem w_lparts {fh f : Nat} {l : List Int} {Q : D → HS b → Prop} (hf : pg.tb f = some ⟨1, 2, bLParts fh⟩) (hh : pg.tb fh = some ⟨1, 7, bLHeaps⟩) (fu : pg.fu = 1000000) (hl : Lim l) (hz : prodS l ≤ 1000) (h1 : l.any (· != 0) = true) (q : Q (.ref s.M.length) (s.alloc (.lst true ((prts l).map hv)))) : W (callF pg (k + 2) f [hv l] s) Q E := by
  refine W_call hf rfl ?_
  walk_at "w0"
  show WS (exB _ _ [_] _ _) _ _ _
  walk_at "ww"
  refine w_lheaps (k := k) hh fu hl ?_
  walk_at "ww"
  refine w_srcL (at_new _ _) ?_
  have hlen := hps_len l
  refine w_lcpl (fun d => match d with | .tup xs => (match asInts xs with | some v => if decide (v ≠ l) then some d else none | none => none) | _ => none) (at_new _ _) (by rw [List.length_map]; show _ < pg.fu; omega) (fun d hd => ?_) ?_
  · obtain ⟨v, _, rfl⟩ := List.mem_map.mp hd
    refine w_turn (tg := .nm 1) (e1 := [some (hv l), some (hv v)]) rfl ?_
    walk_at "ww"
    refine w_neD (eqD_hv _ v l) ?_
    walk_at "ww"
    have e0 : (match hv v with | .tup xs => (match asInts xs with | some w => if decide (w ≠ l) then some (hv v) else none | none => none) | _ => none) = if decide (v ≠ l) then some (hv v) else none := by
      show (match asInts (v.map D.int) with | some w => if decide (w ≠ l) then some (hv v) else none | none => none) = _
      rw [asI]
    refine ⟨fun z => ?_, fun z => ?_⟩
    · refine ⟨?_, rfl⟩
      rw [e0]
      simp at z
      simp [z]
    · walk_at "ww"
      refine ⟨?_, rfl⟩
      rw [e0]
      simp at z
      simp [z]
  · rw [filt_hv (fun v => decide (v ≠ l)) _ (fun v => by
      show (match asInts (v.map D.int) with | some w => if decide (w ≠ l) then some (hv v) else none | none => none) = _
      rw [asI]), prts_filter hl.pos h1]
    exact f_lst rfl (by simp [HS.start]) (at_new _ _) (hvs_imm _) q
def bLPairs (fh fp fl : Nat) : List CS := [(.set (.nm 1) (.lst [])), (.for_ (.nm 2) .val [.call fh [.var 0]] [(.set (.nm 1) (.bin .add (.var 1) (.lc (.nm 3) .val [.call fp [.var 2]] [] (.tup [.var 3, .call fl [.var 2, .var 3]]) [3])))]), (.ret (.var 1))]
theorem prs_len {l : List Int} (hz : prodS l ≤ 200) : (prs l).length ≤ 40000 := by
  have h1 : (prs l).length ≤ (hps l).length * 200 := flat_len fun w hw => by
    rw [List.length_map]
    exact Nat.le_trans (prts_len w) (Nat.le_trans (mem_hps.mp hw).1.prod hz)
  have h3 := hps_len l
  have h2 : (hps l).length * 200 ≤ 200 * 200 := Nat.mul_le_mul (by omega) (Nat.le_refl _)
  omega
theorem w_lpairs {fh fp fl f : Nat} {l : List Int} {Q : D → HS b → Prop} (hf : pg.tb f = some ⟨1, 4, bLPairs fh fp fl⟩) (hh : pg.tb fh = some ⟨1, 7, bLHeaps⟩) (hp : pg.tb fp = some ⟨1, 2, bLParts fh⟩) (hs : pg.tb fl = some ⟨2, 4, bLess⟩) (fu : pg.fu = 1000000)
    (h0 : ∀ m ∈ l, 0 ≤ m) (hz : prodS l ≤ 200) (hn : l.length ≤ 10) (q : Q (.ref s.M.length) (s.alloc (.lst true ((prs l).map pv)))) : W (callF pg (k + 3) f [hv l] s) Q E := by
  have hl : Lim l := lim_of h0 (by omega) hn
  have hlen := hps_len l
  have htot := prs_len hz
  refine W_call hf rfl ?_
  walk_at "w0"
  show WS (exB _ _ [_, _, _] _ _) _ _ _
  walk_at "ww"
  refine w_lheaps (k := k + 1) hh fu hl ?_
  walk_at "ww"
  refine w_srcL (at_new _ _) ?_
  refine z_live (xs := (hps l).map hv) (fun j e2 s2 => ∃ q3 o2, e2 = [some (hv l), some (.ref q3), o2, none] ∧ s2.lo = s.M.length ∧ s.M.length ≤ q3 ∧ s2.M[s.M.length + 1]? = some (.lst true ((hps l).map hv)) ∧
    s2.M[q3]? = some (.lst true ((((hps l).take j).flatMap fun w => (prts w).map fun v => (v, diff w v)).map pv))) ⟨s.M.length, none, rfl, rfl, Nat.le_refl _, by simp [HS.start, HS.alloc], by simp [HS.start, HS.alloc]⟩ (by rw [List.length_map]; show _ < pg.fu; omega) ?_ ?_ ?_
  · rintro j e2 s2 ⟨q3, o2, rfl, h1, h2, h3, h4⟩
    refine ⟨true, ?_⟩
    have e : ((HS.start s.M).alloc (.lst true [])).M.length = s.M.length + 1 := by simp [HS.start, HS.alloc]
    rw [e]
    exact h3
  · rintro j d e2 s2 hd ⟨q3, o2, rfl, h1, h2, h3, h4⟩
    rw [List.getElem?_map] at hd
    cases hrow : (hps l)[j]? with
    | none => rw [hrow] at hd; cases hd
    | some w =>
      rw [hrow] at hd
      cases hd
      have hw := mem_hps.mp (List.mem_of_getElem? hrow)
      have lw : Lim w := hw.1.lim (by omega) hn
      refine z_turn (tg := .nm 2) (e1 := [some (hv l), some (.ref q3), some (hv w), none]) rfl ?_
      walk_at "ww"
      refine w_lparts (k := k) hp hh fu lw (by have := hw.1.prod; omega) hw.2 ?_
      walk_at "ww"
      refine w_srcL (at_new _ _) ?_
      have hpl := Nat.le_trans (prts_len w) (Nat.le_trans hw.1.prod hz)
      refine w_lcpl (xs := (prts w).map hv) (pairD w) (at_new _ _) (by rw [List.length_map]; show _ < pg.fu; omega) (fun d hd => ?_) ?_
      · obtain ⟨v, hv1, rfl⟩ := List.mem_map.mp hd
        refine w_turn (tg := .nm 3) (e1 := [some (hv l), some (.ref q3), some (hv w), some (hv v)]) rfl ?_
        walk_at "ww"
        refine w_less (k := k + 1) hs fu (by have := lw.ln; omega) ?_
        walk_at "ww"
        exact ⟨(pairD_hv w v).symm, rfl⟩
      · rw [pairD_map]
        refine w_addL (at_alloc (at_alloc h4)) (at_new _ _) ?_ ?_
        · refine so_le ?_
          have := flat_le (hps l) j fun w => (prts w).map fun v => (v, diff w v)
          have h6 : (prs l).length = ((hps l).flatMap fun w => (prts w).map fun v => (v, diff w v)).length := rfl
          simp only [List.length_map] at this ⊢
          omega
        · walk_at "ww"
          refine ⟨_, _, rfl, h1, ?_, at_alloc (at_alloc (at_alloc h3)), ?_⟩
          · have := at_lt h3
            simp only [HS.alloc, List.length_append, List.length_cons, List.length_nil]
            omega
          · rw [flat_snoc hrow, List.map_append]
            exact at_new _ _
  · rintro e2 s2 ⟨q3, o2, rfl, h1, h2, h3, h4⟩
    rw [List.length_map, List.take_length] at h4
    walk_at "ww"
    exact f_lst h1 h2 h4 (pvs_imm _) q
end
end PV
set_option Elab.async false
set_option linter.all false
set_option maxRecDepth 100000
set_option maxHeartbeats 2000000
namespace PV
open PySem
def isIntB : D → Bool
  | .int _ => true
  | _ => false
def nat0 : D → Bool
  | .int i => decide (0 ≤ i)
  | _ => false
def countsB : D → Bool
  | .tup xs => decide (1 ≤ xs.length) && decide (xs.length ≤ 3) && xs.all nat0
  | _ => false
def prodI (v : List Int) : Int := v.foldl (fun a m => a * (m + 1)) 1
def boxB : D → Bool
  | .tup xs => countsB (.tup xs) && (match asInts xs with
    | some v => !(v.any (· == 0)) && !decide (24 < v.sum) && decide (prodI v ≤ 64)
    | none => false)
  | _ => false
structure AskD (M : List MO) (x : D) : Prop where
  ty : Tyd M x
  it : ∀ xs, x = .tup xs → ∀ d ∈ xs, Tyd M d
theorem ask_imm {M : List MO} {x : D} (h : x.imm = true) : AskD M x := by
  refine ⟨tyd_imm h, fun xs e d hd => ?_⟩
  subst e
  have h' : D.immL xs = true := h
  clear h
  induction xs with
  | nil => cases hd
  | cons y ys ih =>
    simp only [D.immL, Bool.and_eq_true] at h'
    rcases List.mem_cons.mp hd with rfl | hd
    · exact tyd_imm h'.1
    · exact ih hd h'.2
section
variable {b : List MO} {pg : Pg} {k : Nat} {s : HS b} {E : XW b}
def bIsInt : List CS := [(.ret (.ands [.bi (.isi .int) [.var 0], .nt (.bi (.isi .bool) [.var 0])]))]
theorem w_isint {f : Nat} {x : D} {Q : D → HS b → Prop} (hf : pg.tb f = some ⟨1, 1, bIsInt⟩) (h : Tyd s.M x) (q : Q (.bl (isIntB x)) s) : W (callF pg (k + 1) f [x] s) Q E := by
  obtain ⟨k1, e1⟩ := h .int
  obtain ⟨k2, e2⟩ := h .bool
  have hv : (if k1 then !k2 else k1) = isIntB x := by
    cases x <;> simp_all [isTy, isIntB]
  refine W_call hf rfl ?_
  walk_at "w0"
  show WS (exB _ _ [_] _ _) _ _ _
  walk_at "ww"
  refine w_isi e1 ?_
  walk_at "ww"
  refine ⟨fun z => ?_, fun z => ?_⟩
  · walk_at "ww"
    refine w_isi e2 ?_
    walk_at "ww"
    subst z
    have hv' : (!k2) = isIntB x := hv
    rw [hv']
    exact f_imm rfl rfl q
  · subst z
    have hv' : false = isIntB x := hv
    rw [hv']
    exact f_imm rfl rfl q
def bCounts (f0 : Nat) : List CS := [(.ite (.ors [.nt (.bi (.isi .tuple) [.var 0]), .nt (.chn .le .le (.cst (.int 1)) (.bi .len [.var 0]) (.glb "MAX_KINDS" (3)))]) [(.ret (.cst (.bl false)))] []), (.ret (.bi .all [.lc (.nm 1) .val [.var 0] [] (.ands [.call f0 [.var 1], .cmp .ge (.var 1) (.cst (.int 0))]) [1]]))]
theorem w_counts {f0 f : Nat} {x : D} {Q : D → HS b → Prop} (hf : pg.tb f = some ⟨1, 2, bCounts f0⟩) (h0 : pg.tb f0 = some ⟨1, 1, bIsInt⟩) (fu : pg.fu = 1000000) (h : AskD s.M x) (q : Q (.bl (countsB x)) s) : W (callF pg (k + 2) f [x] s) Q E := by
  refine W_call hf rfl ?_
  walk_at "w0"
  show WS (exB _ _ [_, _] _ _) _ _ _
  walk_at "ww"
  obtain ⟨kt, et⟩ := h.ty .tuple
  refine w_isi et ?_
  walk_at "ww"
  cases x with
  | tup xs =>
    have : kt = true := by
      have : some true = some kt := et
      exact (Option.some.inj this).symm
    subst this
    walk_at "ww"
    refine c_d (fun c1 => ?_) fun c1 => ?_
    · walk_at "ww"
      refine c_d (fun c2 => ?_) fun c2 => ?_
      · walk_at "ww"
        refine w_lcp (fun d => some (.bl (nat0 d))) (by show _ < pg.fu; omega) (fun d hd => ?_) ?_
        · refine w_turn (tg := .nm 1) (e1 := [some (.tup xs), some d]) rfl ?_
          walk_at "ww"
          refine w_isint (k := k) h0 (h.it xs rfl d hd) ?_
          walk_at "ww"
          refine ⟨fun z => ?_, fun z => ?_⟩
          · cases d <;> first | (cases z; done) | skip
            walk_at "ww"
            exact ⟨rfl, rfl⟩
          · cases d <;> first | (cases z; done) | exact ⟨rfl, rfl⟩
        · have e9 : xs.filterMap (fun d => some (D.bl (nat0 d))) = xs.map fun d => D.bl (nat0 d) := (by rw [← List.filterMap_eq_map]; rfl)
          rw [e9]
          walk_at "ww"
          refine w_all (at_new _ _) (asBools_map nat0 xs) ?_
          have e : (xs.map nat0).all id = countsB (.tup xs) := by
            have a1 : 1 ≤ xs.length := by omega
            have a2 : xs.length ≤ 3 := by omega
            simp [countsB, a1, a2, List.all_map]
          rw [e]
          exact f_imm rfl rfl q
      · walk_at "ww"
        have e : countsB (.tup xs) = false := by
          have a2 : ¬ xs.length ≤ 3 := by omega
          simp [countsB, a2]
        rw [e] at q
        exact f_imm rfl rfl q
    · walk_at "ww"
      have e : countsB (.tup xs) = false := by
        have a2 : ¬ 1 ≤ xs.length := by omega
        simp [countsB, a2]
      rw [e] at q
      exact f_imm rfl rfl q
  | ref p =>
    have : kt = false := by
      simp only [isTy] at et
      split at et <;> simp_all
    subst this
    walk_at "ww"
    exact f_imm rfl rfl q
  | _ =>
    have : kt = false := by
      simpa [isTy] using et.symm
    subst this
    walk_at "ww"
    exact f_imm rfl rfl q
def bBox (f1 : Nat) : List CS := [(.ite (.ors [.nt (.call f1 [.var 0]), .bi .any [.lc (.nm 2) .val [.var 0] [] (.cmp .eq (.var 2) (.cst (.int 0))) [2]], .cmp .gt (.bi .sum [.var 0]) (.glb "MAX_SIZE" (24))]) [(.ret (.cst (.bl false)))] []), (.set (.nm 1) (.cst (.int 1))), (.for_ (.nm 2) .val [.var 0] [(.aug 1 .mul (.bin .add (.var 2) (.cst (.int 1))))]), (.ret (.cmp .le (.var 1) (.glb "MAX_VECTORS" (64))))]
theorem counts_hv {x : D} (h : countsB x = true) : ∃ v : List Int, x = hv v ∧ (∀ m ∈ v, 0 ≤ m) ∧ 1 ≤ v.length ∧ v.length ≤ 3 := by
  cases x with
  | tup xs =>
    simp only [countsB, Bool.and_eq_true, decide_eq_true_eq] at h
    obtain ⟨⟨h1, h2⟩, h3⟩ := h
    have ex : ∃ v : List Int, xs = v.map D.int ∧ ∀ m ∈ v, 0 ≤ m := by
      clear h1 h2
      induction xs with
      | nil => exact ⟨[], rfl, by simp⟩
      | cons d r ih =>
        simp only [List.all_cons, Bool.and_eq_true] at h3
        obtain ⟨v, rfl, hv⟩ := ih h3.2
        cases d <;> simp [nat0] at h3
        rename_i i
        exact ⟨i :: v, rfl, fun m hm => by
          rcases List.mem_cons.mp hm with rfl | hm
          · exact h3.1
          · exact hv m hm⟩
    obtain ⟨v, rfl, hv⟩ := ex
    exact ⟨v, rfl, hv, by simpa using h1, by simpa using h2⟩
  | _ => cases h
theorem box_hv {v : List Int} (h : countsB (hv v) = true) : boxB (hv v) = (!(v.any (· == 0)) && !decide (24 < v.sum) && decide (prodI v ≤ 64)) := by
  show (countsB (.tup (v.map D.int)) && (match asInts (v.map D.int) with
    | some v => !(v.any (· == 0)) && !decide (24 < v.sum) && decide (prodI v ≤ 64)
    | none => false)) = _
  rw [asI, show countsB (.tup (v.map D.int)) = true from h]
  rfl
theorem box_no {x : D} (h : countsB x = false) : boxB x = false := by
  cases x <;> first | rfl | simp [boxB, h]
theorem mem_le_sum : ∀ {v : List Int}, (∀ m ∈ v, 0 ≤ m) → ∀ m ∈ v, m ≤ v.sum
  | x :: v, h, m, hm => by
    have hs : 0 ≤ v.sum := by
      have h' : ∀ y ∈ v, 0 ≤ y := fun y hy => h y (List.mem_cons_of_mem _ hy)
      clear h hm
      induction v with
      | nil => simp
      | cons y v ih =>
        have h1 := h' y List.mem_cons_self
        have h2 := ih fun z hz => h' z (List.mem_cons_of_mem _ hz)
        simp only [List.sum_cons]
        omega
    have hx := h x List.mem_cons_self
    rw [List.sum_cons]
    rcases List.mem_cons.mp hm with rfl | hm
    · omega
    · have := mem_le_sum (fun y hy => h y (List.mem_cons_of_mem _ hy)) m hm
      omega
theorem any_eq0 (v : List Int) : (v.map fun x => x == (0 : Int)).any id = v.any (· == 0) := by simp
theorem w_box {f1 f0 f : Nat} {x : D} {Q : D → HS b → Prop} (hf : pg.tb f = some ⟨1, 3, bBox f1⟩) (h1 : pg.tb f1 = some ⟨1, 2, bCounts f0⟩) (h0 : pg.tb f0 = some ⟨1, 1, bIsInt⟩) (fu : pg.fu = 1000000) (h : AskD s.M x) (q : Q (.bl (boxB x)) s) : W (callF pg (k + 3) f [x] s) Q E := by
  refine W_call hf rfl ?_
  walk_at "w0"
  show WS (exB _ _ [_, _, _, _] _ _) _ _ _
  walk_at "ww"
  refine w_counts (k := k) h1 h0 fu h ?_
  walk_at "ww"
  cases hc : countsB x with
  | false =>
    rw [box_no hc] at q
    walk_at "ww"
    exact f_imm rfl rfl q
  | true =>
    obtain ⟨v, rfl, hp, l1, l3⟩ := counts_hv hc
    rw [box_hv hc] at q
    walk_at "ww"
    show W (srcR .val [.tup (v.map D.int)] _) _ _
    walk_at "ww"
    refine w_lcp (fun d => match d with | .int x => some (.bl (x == 0)) | _ => none) (by rw [List.length_map]; show _ < pg.fu; omega) (fun d hd => ?_) ?_
    · obtain ⟨x, _, rfl⟩ := List.mem_map.mp hd
      refine w_turn (tg := .nm 2) (e1 := [some (hv v), none, some (.int x)]) rfl ?_
      walk_at "ww"
      exact ⟨rfl, rfl⟩
    · have e9 : (v.map D.int).filterMap (fun d => match d with | .int x => some (.bl (x == 0)) | _ => none) = v.map fun x => D.bl (x == 0) := by
        rw [List.filterMap_map, ← List.filterMap_eq_map]
        rfl
      rw [e9]
      walk_at "ww"
      refine w_any (at_new _ _) (asBools_map (fun x : Int => x == 0) v) ?_
      rw [any_eq0]
      walk_at "ww"
      cases ha : v.any (· == 0) with
      | true =>
        rw [ha] at q
        walk_at "ww"
        exact f_imm rfl rfl q
      | false =>
        rw [ha] at q
        walk_at "ww"
        refine w_sum (ys := v.map D.int) rfl (asI v) ?_
        walk_at "ww"
        refine c_d (fun c1 => ?_) fun c1 => ?_
        · rw [decide_eq_true c1] at q
          walk_at "ww"
          exact f_imm rfl rfl q
        · rw [decide_eq_false c1] at q
          walk_at "ww"
          show WS (forL (Src.its (v.map D.int)).at _ _ _ _ _) _ _ _
          have hm24 : ∀ m ∈ v, m ≤ 24 := fun m hm => by
            have := mem_le_sum hp m hm
            omega
          refine z_its (fun i e1 s1 => ∃ o2, e1 = [some (hv v), some (.int (prodI (v.take i))), o2] ∧ s1.lo = s.M.length ∧ 0 ≤ prodI (v.take i) ∧ prodI (v.take i) ≤ 25 ^ i) ⟨none, rfl, rfl, by simp [prodI], by simp [prodI]⟩ (by rw [List.length_map]; show _ < pg.fu; omega) ?_ ?_
          · rintro i d e1 s1 hd ⟨o2, rfl, hlo, p0, p1⟩
            rw [List.getElem?_map] at hd
            cases hli : v[i]? with
            | none => rw [hli] at hd; cases hd
            | some m =>
              rw [hli] at hd
              cases hd
              have hmem := List.mem_of_getElem? hli
              have hi : i < v.length := (List.getElem?_eq_some_iff.mp hli).1
              have m0 := hp m hmem
              have m1 := hm24 m hmem
              refine z_turn (tg := .nm 2) (e1 := [some (hv v), some (.int (prodI (v.take i))), some (.int m)]) rfl ?_
              have hpw : (25 : Int) ^ i ≤ 25 ^ 2 := by
                have : i = 0 ∨ i = 1 ∨ i = 2 := by omega
                rcases this with rfl | rfl | rfl <;> decide
              have e2 : prodI (v.take (i + 1)) = prodI (v.take i) * (m + 1) := by
                rw [take_snoc hli]
                simp [prodI]
              walk_at "ww"
              refine z_aug (x := prodI (v.take i)) rfl ?_
              walk_at "ww"
              have h625 : (25 : Int) ^ 2 = 625 := by decide
              refine w_mul ?_ ?_
              · unfold mulOk
                have : (prodI (v.take i)).natAbs < 2 ^ 64 := by omega
                simp [this]
              · refine ⟨_, by rw [e2]; rfl, hlo, ?_, ?_⟩
                · rw [e2]
                  exact Int.mul_nonneg p0 (by omega)
                · rw [e2, Int.pow_succ]
                  exact Int.mul_le_mul p1 (by omega) (by omega) (Int.pow_nonneg (by decide))
          · rintro e1 s1 ⟨o2, rfl, hlo, p0, p1⟩
            rw [List.length_map, List.take_length]
            walk_at "ww"
            exact f_imm hlo rfl q
def bCheck (c f7 : Nat) : List CS := [(.ite (.nt (.call f7 [.var 0])) [(.raise c [.var 0])] [])]
theorem w_check {c f7 f1 f0 f : Nat} {x : D} {Q : D → HS b → Prop} (hf : pg.tb f = some ⟨1, 1, bCheck c f7⟩) (h7 : pg.tb f7 = some ⟨1, 3, bBox f1⟩) (h1 : pg.tb f1 = some ⟨1, 2, bCounts f0⟩) (h0 : pg.tb f0 = some ⟨1, 1, bIsInt⟩) (fu : pg.fu = 1000000) (hx : pg.flds c = [Str.ofString "value"]) (hw : s.wf) (h : AskD s.M x)
    (q1 : boxB x = true → Q .non s) (q2 : boxB x = false → E c [("value", x)] s) : W (callF pg (k + 4) f [x] s) Q E := by
  refine W_call hf rfl ?_
  walk_at "w0"
  show WS (exB _ _ [_] _ _) _ _ _
  walk_at "ww"
  refine w_box (k := k) h7 h1 h0 fu h ?_
  walk_at "ww"
  cases hb : boxB x with
  | true =>
    walk_at "ww"
    exact f_imm rfl rfl (q1 hb)
  | false =>
    walk_at "ww"
    refine ⟨by show 1 = (pg.flds c).length; rw [hx]; rfl, ?_⟩
    show E c ((pg.flds c).zip [x]) (s.back (HS.start s.M))
    rw [hx, back_start hw]
    exact q2 hb
end
end PV
set_option Elab.async false
set_option linter.all false
set_option autoImplicit false
set_option maxRecDepth 100000
set_option maxHeartbeats 1000000
namespace PV
open PySem
variable {b : List MO}
abbrev OL := List (Nat × MO)
structure Has (s : HS b) (L : OL) : Prop where
  wf : s.wf
  at_ : ∀ p ∈ L, s.M[p.1]? = some p.2
  nd : (L.map (·.1)).Nodup
section
variable {s : HS b} {L L' L1 : OL} {i q : Nat} {o o' : MO}
theorem Has.get (h : Has s L) (hi : L[i]? = some (q, o)) : s.M[q]? = some o := h.at_ _ (List.mem_of_getElem? hi)
theorem Has.lt (h : Has s L) {p : Nat × MO} (hp : p ∈ L) : p.1 < s.M.length := at_lt (h.at_ p hp)
theorem Has.alloc (h : Has s L) (o : MO) : Has (s.alloc o) ((s.M.length, o) :: L) := by
  refine ⟨alloc_wf h.wf o, fun p hp => ?_, ?_⟩
  · rcases List.mem_cons.mp hp with rfl | hp
    · exact at_new s o
    · exact at_alloc (h.at_ p hp)
  · simp only [List.map_cons, List.nodup_cons]
    refine ⟨fun z => ?_, h.nd⟩
    obtain ⟨p, hp, e⟩ := List.mem_map.mp z
    have := h.lt hp
    omega
theorem Has.set (h : Has s L) (hi : L[i]? = some (q, o)) (o' : MO) : Has (s.set q o') (L.set i (q, o')) := by
  have hl : i < L.length := (List.getElem?_eq_some_iff.mp hi).1
  have e1 : (L.set i (q, o')).map (·.1) = L.map (·.1) := by
    rw [List.map_set]
    apply List.ext_getElem?
    intro j
    by_cases hj : j = i
    · subst hj
      rw [List.getElem?_set_self (by simpa using hl), List.getElem?_map, hi]
      rfl
    · rw [List.getElem?_set_ne (Ne.symm hj)]
  refine ⟨?_, fun p hp => ?_, e1 ▸ h.nd⟩
  · show min s.lo q ≤ (s.M.set q o').length
    rw [List.length_set]
    exact Nat.le_trans (Nat.min_le_left _ _) h.wf
  · obtain ⟨j, hj⟩ := List.mem_iff_getElem?.mp hp
    by_cases e : j = i
    · subst e
      rw [List.getElem?_set_self hl] at hj
      cases hj
      exact at_set_self (h.get hi)
    · rw [List.getElem?_set_ne (Ne.symm e)] at hj
      refine at_set (fun z => e ?_) (h.get (q := p.1) (o := p.2) hj)
      have hj' := (List.getElem?_eq_some_iff.mp hj).1
      have a1 : (L.map (·.1))[j]? = some q := by rw [List.getElem?_map, hj, ← z]; rfl
      have a2 : (L.map (·.1))[i]? = some q := by rw [List.getElem?_map, hi]; rfl
      have := (List.getElem?_inj (by simpa using hj') h.nd).mp (a1.trans a2.symm)
      exact this
theorem Has.start (h : Has s L) : Has (HS.start s.M) L := ⟨start_wf _, h.at_, h.nd⟩
theorem Has.sub (h : Has s L) (hs : L'.Sublist L) : Has s L' := ⟨h.wf, fun p hp => h.at_ p (hs.subset hp), (hs.map _).nodup h.nd⟩
theorem Has.back {s1 : HS s.M} (h : Has s1 L) : Has (s.back s1) L := ⟨Nat.le_trans (Nat.min_le_right _ _) h.wf, h.at_, h.nd⟩
theorem Has.old {s1 : HS s.M} (h0 : Has s L) (h1 : Has s1 L1) (hs : L'.Sublist L1) (ha : L'.map (·.1) = L.map (·.1)) (hlo : s1.lo = s.M.length) : Has s L' := by
  refine ⟨h0.wf, fun p hp => ?_, ha ▸ h0.nd⟩
  have m : p.1 ∈ L.map (·.1) := ha ▸ List.mem_map.mpr ⟨p, hp, rfl⟩
  obtain ⟨r, hr, e⟩ := List.mem_map.mp m
  have lt := h0.lt hr
  have ok := s1.ok
  rw [hlo, List.take_length] at ok
  obtain ⟨t, ht⟩ := ok
  have := h1.at_ p (hs.subset hp)
  rw [← ht, List.getElem?_append_left (by omega)] at this
  exact this
def AL (s : HS b) (o : MO) (K : Nat → HS b → Prop) : Prop := K s.M.length (s.alloc o)
theorem k_al {K : Nat → HS b → Prop} (H : Has s L) (h : ∀ q S, Has S ((q, o) :: L) → K q S) : AL s o K := h _ _ (H.alloc o)
theorem k_alx {K : Nat → HS b → Prop} (H : Has s L) (h : ∀ q S, s.M.length ≤ q → s.M.length ≤ S.M.length → S.lo = s.lo → Has S ((q, o) :: L) → K q S) : AL s o K := h _ _ (Nat.le_refl _) (by simp) rfl (H.alloc o)
def SE (s : HS b) (q : Nat) (o : MO) (K : HS b → Prop) : Prop := K (s.set q o)
theorem k_se {K : HS b → Prop} (H : Has s L) (hi : L[i]? = some (q, o')) (h : ∀ S, Has S (L.set i (q, o)) → K S) : SE s q o K := h _ (H.set hi o)
theorem k_sex {K : HS b → Prop} (H : Has s L) (hi : L[i]? = some (q, o')) (h : ∀ S, s.M.length ≤ S.M.length → S.lo = min s.lo q → Has S (L.set i (q, o)) → K S) : SE s q o K := h _ (by simp) rfl (H.set hi o)
end
section
variable {s : HS b} {s1 : HS s.M} {L L' L1 : OL} {d : D} {Q : D → HS b → Prop} {E : XW b}
theorem h_imm (h0 : Has s L) (h1 : Has s1 L1) (hs : L'.Sublist L1) (ha : L'.map (·.1) = L.map (·.1)) (hd : d.imm = true) (q : ∀ S, Has S L' → Q d S) : W (fin s d s1) Q E := by
  by_cases hlo : s1.lo = s.M.length
  · exact f_imm hlo hd (q s (h0.old h1 hs ha hlo))
  · exact f_keep hlo (q _ (h1.sub hs).back)
theorem h_lst {p : Nat} {ys : List D} (h0 : Has s L) (h1 : Has s1 L1) (hs : ((p, MO.lst true ys) :: L').Sublist L1) (ha : L'.map (·.1) = L.map (·.1)) (hy : D.immL ys = true) (q : ∀ p' S, Has S ((p', .lst true ys) :: L') → Q (.ref p') S) : W (fin s (.ref p) s1) Q E := by
  have hp : s1.M[p]? = some (.lst true ys) := h1.at_ (p, _) (hs.subset List.mem_cons_self)
  by_cases hlo : s1.lo = s.M.length
  · by_cases hn : s.M.length ≤ p
    · exact f_lst hlo hn hp hy (q _ _ ((h0.old h1 ((List.sublist_cons_self _ _).trans hs) ha hlo).alloc _))
    · have e : fin s (.ref p) s1 = ret (.ref p) (s.back s1) := by
        unfold fin
        rw [if_pos hlo]
        have : pull s.M.length s1.M (.ref p) = none := by
          simp only [pull]
          rw [if_pos (by omega)]
        rw [this]
      exact w_is e (q _ _ (h1.sub hs).back)
  · exact f_keep hlo (q _ _ (h1.sub hs).back)
theorem h_obj {p : Nat} {o : MO} (h1 : Has s1 L1) (hs : ((p, o) :: L').Sublist L1) (ho : ∀ ys, o = .lst true ys → D.immL ys = false) (q : ∀ S, Has S ((p, o) :: L') → Q (.ref p) S) : W (fin s (.ref p) s1) Q E := by
  have hp : s1.M[p]? = some o := h1.at_ (p, _) (hs.subset List.mem_cons_self)
  have e : fin s (.ref p) s1 = ret (.ref p) (s.back s1) := by
    unfold fin
    split
    · have : pull s.M.length s1.M (.ref p) = none := by
        simp only [pull, hp]
        split
        · rfl
        · cases o with
          | lst w ys =>
            cases w with
            | true => simp [ho ys rfl]
            | false => rfl
          | dct _ _ => rfl
          | ins _ _ => rfl
      rw [this]
    · rfl
  exact w_is e (q _ (h1.sub hs).back)
end
section
variable {P : Ev} {X : Cur} {e : Env} {s : HS b} {Q : D → HS b → Prop} {E : XW b}
theorem a_lst {es : List CE} (h : W (evL P X es e s) (fun xs s1 => sizeOk xs.length = true ∧ AL s1 (.lst true xs) fun q S => Q (.ref q) S) E) : W (evE P X (.lst es) e s) Q E := w_lst h
theorem a_dct0 (h : AL s (.dct 0 []) fun q S => Q (.ref q) S) : W (evE P X .dct0 e s) Q E := h
theorem a_lc {tg : Tg} {k : ITk} {sr ifs : List CE} {elt : CE} {own : List Nat} (h : W (evL P X sr e s) (fun xs s1 => W (srcR k xs s1) (fun r s2 => W (lcL r.at (turnC P tg ifs elt (wipeE e own)) P.fu 0 [] s2) (fun ys s3 => AL s3 (.lst true ys) fun q S => Q (.ref q) S) E) E) E) : W (evE P X (.lc tg k sr ifs elt own) e s) Q E := w_lc h
theorem a_addL {p q : Nat} {xs ys : List D} (hp : s.M[p]? = some (.lst true xs)) (hq : s.M[q]? = some (.lst true ys)) (hz : xs.length + ys.length ≤ 100000) (h : AL s (.lst true (xs ++ ys)) fun q S => Q (.ref q) S) : W (bin .add (.ref p) (.ref q) s) Q E := w_addL hp hq (so_le hz) h
theorem a_slL {p : Nat} {w : Bool} {xs : List D} {lo hi : Option Int} (hp : s.M[p]? = some (.lst w xs)) (h : AL s (.lst true (cutD xs lo hi)) fun q S => Q (.ref q) S) : W (slice (.ref p) lo hi s) Q E := w_slL hp h
theorem a_list {x : D} {ys : List D} (hi : items s.M x = some ys) (h : AL s (.lst true ys) fun q S => Q (.ref q) S) : W (PV.call .list [x] s) Q E := w_list hi h
theorem a_listT {ys : List D} (h : AL s (.lst true ys) fun q S => Q (.ref q) S) : W (PV.call .list [.tup ys] s) Q E := h
def FL (P : Ev) (f : Str) (x : D) (s : HS b) (Q : D → HS b → Prop) : Prop := ∃ p c fs d, x = .ref p ∧ s.M[p]? = some (.ins c fs) ∧ P.fok c f = true ∧ fs.lookup f = some d ∧ Q d s
theorem k_fl {p : Nat} {c : Str} {fs : List (Str × D)} {f : Str} {d : D} (hp : s.M[p]? = some (.ins c fs)) (h1 : P.fok c f = true) (h2 : fs.lookup f = some d) (h : Q d s) : FL P f (.ref p) s Q := ⟨p, c, fs, d, rfl, hp, h1, h2, h⟩
theorem w_fld {a : CE} {f : Str} (h : W (evE P X a e s) (fun x s1 => FL P f x s1 Q) E) : W (evE P X (.fld a f) e s) Q E := by
  show W (bnd _ _) _ _
  rw [W_bnd]
  refine h.mono (fun x s1 h => ?_) fun _ _ _ z => z
  obtain ⟨p, c, fs, d, rfl, hp, h1, h2, q⟩ := h
  simp only [hp, h1, h2, if_true]
  exact q
def MC (P : Ev) (m : Str) (x : D) (s : HS b) (K : Nat → Nat → ArI → Prop) : Prop := ∃ p c fs g r, x = .ref p ∧ s.M[p]? = some (.ins c fs) ∧ fs.lookup m = none ∧ P.mth c m = some g ∧ P.ar g = some r ∧ K p g r
theorem k_mc {K : Nat → Nat → ArI → Prop} {p g : Nat} {c m : Str} {fs : List (Str × D)} {r : ArI} (hp : s.M[p]? = some (.ins c fs)) (h0 : fs.lookup m = none) (h1 : P.mth c m = some g) (h2 : P.ar g = some r) (h : K p g r) : MC P m (.ref p) s K := ⟨p, c, fs, g, r, rfl, hp, h0, h1, h2, h⟩
theorem w_mc {a : CE} {m : Str} {es kes : List CE} {ks : List Str} (h : W (evE P X a e s) (fun x s1 => MC P m x s1 fun p g r => W (evL P X es e s1) (fun xs s2 => W (evL P X kes e s2) (fun ys s3 => ∃ zs, arr r (.ref p :: xs) ks ys = some zs ∧ W (P.cf g zs s3) Q E) E) E) E) : W (evE P X (.mc a m es ks kes) e s) Q E := by
  show W (bnd _ _) _ _
  rw [W_bnd]
  refine h.mono (fun x s1 h => ?_) fun _ _ _ z => z
  obtain ⟨p, c, fs, g, r, rfl, hp, h0, h1, h2, h⟩ := h
  simp only [hp, h0, h1, h2]
  rw [W_bnd]
  refine h.mono (fun xs s2 h => ?_) fun _ _ _ z => z
  rw [W_bnd]
  refine h.mono (fun ys s3 ⟨zs, hz, h⟩ => ?_) fun _ _ _ z => z
  rw [hz]
  exact h
theorem x_arr {a : ArI} {xs ys zs : List D} {ks : List Str} {K : List D → Prop} (h : arr a xs ks ys = some zs) (q : K zs) : ∃ zs, arr a xs ks ys = some zs ∧ K zs := ⟨zs, h, q⟩
theorem w_new {c : Str} {es kes : List CE} {ks : List Str} {f : Nat} {r : ArI} (hi : P.ini c = some f) (ha : P.ar f = some r) (h : W (evL P X es e s) (fun xs s1 => W (evL P X kes e s1) (fun ys s2 => AL s2 (.ins c []) fun q S => ∃ zs, arr r (.ref q :: xs) ks ys = some zs ∧ W (P.cf f zs S) (fun d s3 => d = .non ∧ Q (.ref q) s3) E) E) E) : W (evE P X (.new c es ks kes) e s) Q E := by
  have e1 : evE P X (.new c es ks kes) e s = bnd (evL P X es e s) fun xs s1 => bnd (evL P X kes e s1) fun ys s2 => (match arr r (.ref s2.M.length :: xs) ks ys with
        | some zs => bnd (P.cf f zs (s2.alloc (.ins c []))) fun d s3 => (match d with
          | .non => ret (.ref s2.M.length) s3
          | _ => none)
        | none => none) := by
    show (match P.ini c with | some f => _ | none => _) = _
    rw [hi]
    dsimp only
    rw [ha] <;> rfl
  rw [e1, W_bnd]
  refine h.mono (fun xs s1 h => ?_) fun _ _ _ z => z
  rw [W_bnd]
  refine h.mono (fun ys s2 h => ?_) fun _ _ _ z => z
  obtain ⟨zs, hz, h⟩ := h
  rw [hz]
  dsimp only
  rw [W_bnd]
  refine h.mono (fun d s3 ⟨hd, q⟩ => ?_) fun _ _ _ z => z
  subst hd
  exact q
def IC (P : Ev) (c : Str) (x : D) (s : HS b) (Q : D → HS b → Prop) : Prop := ∃ t, isCD P.isc s.M c x = some t ∧ Q (.bl t) s
theorem w_isC {a : CE} {c : Str} (hc : P.isc c = true) (h : W (evE P X a e s) (fun x s1 => IC P c x s1 Q) E) : W (evE P X (.isC a c) e s) Q E := by
  have e1 : evE P X (.isC a c) e s = bnd (evE P X a e s) fun x s1 => (match isCD P.isc s1.M c x with
    | some b => ret (.bl b) s1
    | none => none) := by
    show (if P.isc c then _ else _) = _
    rw [if_pos hc] <;> rfl
  rw [e1, W_bnd]
  refine h.mono (fun x s1 ⟨t, ht, q⟩ => ?_) fun _ _ _ z => z
  rw [ht]
  exact q
theorem k_ic {p : Nat} {c c' : Str} {fs : List (Str × D)} (hp : s.M[p]? = some (.ins c' fs)) (hc : P.isc c' = true) (h : Q (.bl (decide (c' = c))) s) : IC P c (.ref p) s Q := ⟨_, by simp only [isCD, hp, hc, if_true], h⟩
theorem w_ixd {p : Nat} {y d : D} {ep : Nat} {kvs : KV} (hp : s.M[p]? = some (.dct ep kvs)) (hk : kOk y = true) (hg : getK kvs y = some d) (h : Q d s) : W (index (.ref p) y s) Q E := by
  have e1 : index (.ref p) y s = ret d s := by
    simp only [index, hp, hk, hg, if_true]
  exact w_is e1 h
theorem w_lenD {p : Nat} {ep : Nat} {kvs : KV} (hp : s.M[p]? = some (.dct ep kvs)) (h : Q (.int kvs.length) s) : W (PV.call .len [.ref p] s) Q E := by
  have e1 : PV.call .len [.ref p] s = ret (.int kvs.length) s := by simp only [PV.call, items, hp]
  exact w_is e1 h
theorem mt_get {M : List MO} {p ep : Nat} {kvs : KV} (hp : M[p]? = some (.dct ep kvs)) : mtOk .get M (.ref p) = true := by simp only [mtOk, hp]
theorem w_get1 {p : Nat} {y : D} {ep : Nat} {kvs : KV} (hp : s.M[p]? = some (.dct ep kvs)) (hk : kOk y = true) (h : Q ((getK kvs y).getD .non) s) : W (meth .get (.ref p) [y] s) Q E := by
  have e1 : meth .get (.ref p) [y] s = ret ((getK kvs y).getD .non) s := by simp only [meth, hp, hk, if_true]
  exact w_is e1 h
theorem w_get2 {p : Nat} {y z : D} {ep : Nat} {kvs : KV} (hp : s.M[p]? = some (.dct ep kvs)) (hk : kOk y = true) (h : Q ((getK kvs y).getD z) s) : W (meth .get (.ref p) [y, z] s) Q E := by
  have e1 : meth .get (.ref p) [y, z] s = ret ((getK kvs y).getD z) s := by simp only [meth, hp, hk, if_true]
  exact w_is e1 h
theorem w_innD {p : Nat} {y : D} {ep : Nat} {kvs : KV} (hp : s.M[p]? = some (.dct ep kvs)) (hk : kOk y = true) (h : Q (.bl (getK kvs y).isSome) s) : W (cmp .inn y (.ref p) s) Q E := by
  have e1 : cmp .inn y (.ref p) s = ret (.bl (getK kvs y).isSome) s := by simp only [cmp, inD, hp, hk, if_true]
  exact w_is e1 h
theorem w_ninD {p : Nat} {y : D} {ep : Nat} {kvs : KV} (hp : s.M[p]? = some (.dct ep kvs)) (hk : kOk y = true) (h : Q (.bl (!(getK kvs y).isSome)) s) : W (cmp .nin y (.ref p) s) Q E := by
  have e1 : cmp .nin y (.ref p) s = ret (.bl (!(getK kvs y).isSome)) s := by simp only [cmp, inD, hp, hk, if_true]
  exact w_is e1 h
theorem a_dictL {p : Nat} {w : Bool} {ys : List D} {ps : KV} (hp : s.M[p]? = some (.lst w ys)) (hy : pairsD ys = some ps) (hz : ps.length ≤ 100000) (h : AL s (.dct (foldK (0, []) ps).1 (foldK (0, []) ps).2) fun q S => Q (.ref q) S) : W (PV.call .dict [.ref p] s) Q E := by
  have e1 : PV.call .dict [.ref p] s = ret (.ref s.M.length) (s.alloc (.dct (foldK (0, []) ps).1 (foldK (0, []) ps).2)) := by simp only [PV.call, hp, hy, so_le hz, if_true]
  exact w_is e1 h
theorem a_dictD {p ep : Nat} {kvs : KV} {c : Nat × KV} (hp : s.M[p]? = some (.dct ep kvs)) (hc : copyK kvs = some c) (hz : kvs.length ≤ 100000) (h : AL s (.dct c.1 c.2) fun q S => Q (.ref q) S) : W (PV.call .dict [.ref p] s) Q E := by
  have e1 : PV.call .dict [.ref p] s = ret (.ref s.M.length) (s.alloc (.dct c.1 c.2)) := by simp only [PV.call, hp, hc, so_le hz, if_true]
  exact w_is e1 h
def turnD (P : Ev) (tg : Tg) (ifs : List CE) (ke ve : CE) (e : Env) (d : D) (s : HS b) : R b (Option (D × D)) := noX (match tg.bind d e with
        | none => none
        | some e1 => bnd (evIf P none ifs e1 s) fun b s3 => if b then bnd (evE P none ke e1 s3) fun y s4 => bnd (evE P none ve e1 s4) fun z s5 => ret (some (y, z)) s5 else ret none s3)
theorem a_dc {tg : Tg} {k : ITk} {sr ifs : List CE} {ke ve : CE} {own : List Nat} (h : W (evL P X sr e s) (fun xs s1 => W (srcR k xs s1) (fun r s2 => W (dcL r.at (turnD P tg ifs ke ve (wipeE e own)) P.fu 0 (0, []) s2) (fun ys s3 => AL s3 (.dct ys.1 ys.2) fun q S => Q (.ref q) S) E) E) E) : W (evE P X (.dc tg k sr ifs ke ve own) e s) Q E := by
  have e1 : evE P X (.dc tg k sr ifs ke ve own) e s = bnd (bnd (evL P X sr e s) fun xs s1 => srcR k xs s1) fun r s1 => bnd (dcL r.at (turnD P tg ifs ke ve (wipeE e own)) P.fu 0 (0, []) s1) fun ys s2 => ret (.ref s2.M.length) (s2.alloc (.dct ys.1 ys.2)) := rfl
  rw [e1, W_bnd, W_bnd]
  refine h.mono (fun xs s1 h => h.mono (fun r s2 h => ?_) fun _ _ _ z => z) fun _ _ _ z => z
  rw [W_bnd]
  exact h
theorem w_turnD {tg : Tg} {ifs : List CE} {ke ve : CE} {d : D} {e1 : Env} {Q : Option (D × D) → HS b → Prop} (hb : tg.bind d e = some e1) (h : W (evIf P none ifs e1 s) (fun t s1 => (t = true → W (evE P none ke e1 s1) (fun y s2 => W (evE P none ve e1 s2) (fun z s3 => Q (some (y, z)) s3) X0) X0) ∧ (t = false → Q none s1)) X0) : W (turnD P tg ifs ke ve e d s) Q E := by
  unfold turnD
  refine W_noX ?_
  simp only [hb]
  rw [W_bnd]
  refine h.mono (fun t s1 ⟨h1, h2⟩ => ?_) fun _ _ _ z => z
  cases t with
  | true =>
    simp only [if_true, W_bnd, W_ret]
    exact h1 rfl
  | false => exact h2 rfl
theorem dcL_pure {at_ : Nat → HS b → Option (Option D)} {turn : D → HS b → R b (Option (D × D))} {g : D → D × D} {xs : List D} (h1 : ∀ i, at_ i s = some xs[i]?) (h2 : ∀ d ∈ xs, turn d s = ret (some (g d)) s) (h3 : ∀ d ∈ xs, kOk (g d).1 = true) :
    ∀ (n i : Nat) (acc : Nat × KV), i ≤ xs.length → xs.length < n + i → acc.2.length + (xs.length - i) ≤ 99999 → dcL at_ turn n i acc s = ret (foldK acc ((xs.drop i).map g)) s
  | 0, i, acc, hi0, hn, hz => by omega
  | n + 1, i, acc, hi0, hn, hz => by
    by_cases hi : i < xs.length
    · have e1 : xs[i]? = some xs[i] := by simp [hi]
      have hm : xs[i] ∈ xs := List.getElem_mem hi
      simp only [dcL, h1, e1, h2 _ hm]
      have l1 : (putK acc.2 (g xs[i]).1 (g xs[i]).2).length ≤ acc.2.length + 1 := by
        unfold putK
        split
        · rw [List.length_modify]; omega
        · simp
      show (if (kOk (g xs[i]).1 && sizeOk (acc.2.length + 1)) = true then _ else _) = _
      rw [h3 _ hm, so_le (by omega), Bool.and_self, if_pos rfl, dcL_pure h1 h2 h3 n (i + 1) _ (by omega) (by omega) (by dsimp only; omega), List.drop_eq_getElem_cons hi, List.map_cons]
      rfl
    · have e1 : xs[i]? = none := by simp; omega
      simp only [dcL, h1, e1]
      rw [List.drop_eq_nil_of_le (by omega)]
      rfl
theorem w_dcp {p : Nat} {w : Bool} {xs : List D} {turn : D → HS b → R b (Option (D × D))} {n : Nat} {Q : Nat × KV → HS b → Prop} (g : D → D × D) (hp : s.M[p]? = some (.lst w xs)) (hf : xs.length < n) (hz : xs.length ≤ 99999) (hk : ∀ d ∈ xs, kOk (g d).1 = true) (h : ∀ d ∈ xs, W (turn d s) (fun r s1 => r = some (g d) ∧ s1 = s) X0) (q : Q (foldK (0, []) (xs.map g)) s) : W (dcL (Src.live p).at turn n 0 (0, []) s) Q E := by
  refine w_is (dcL_pure (g := g) (xs := xs) (fun i => by simp [Src.at, hp]) (fun d hd => ?_) hk n 0 (0, []) (Nat.zero_le _) (by omega) (by simp; omega)) ?_
  · obtain ⟨a, s1, e, rfl, rfl⟩ := (h d hd).get
    exact e
  · simpa using q
end
section
variable {P : Ev} {X : Cur} {e : Env} {s : HS b} {N : Env → HS b → Prop} {T : D → HS b → Prop} {EE : Nat → List (Str × D) → Env → HS b → Prop}
def ST (x y v : D) (s : HS b) (K : HS b → Prop) : Prop := ∃ s4, setItem x y v s = some s4 ∧ K s4
theorem a_sub {o i a : CE} (h : W (evE P X a e s) (fun v s1 => W (evE P X o e s1) (fun x s2 => W (evE P X i e s2) (fun y s3 => ST x y v s3 fun s4 => N e s4) (fun c fs s1 => EE c fs e s1)) (fun c fs s1 => EE c fs e s1)) (fun c fs s1 => EE c fs e s1)) : WS (exS P X (.sub o i a) e s) N T EE := z_sub h
theorem k_stL {p j : Nat} {k : Int} {xs : List D} {v : D} {K : HS b → Prop} (hp : s.M[p]? = some (.lst true xs)) (hj : L2.ixN xs.length k = some j) (h : SE s p (.lst true (xs.set j v)) K) : ST (.ref p) (.int k) v s K := ⟨_, by simp only [setItem, hp, hj], h⟩
theorem k_stD {p ep : Nat} {y v : D} {kvs : KV} {K : HS b → Prop} (hp : s.M[p]? = some (.dct ep kvs)) (hk : kOk y = true) (hz : kvs.length + 1 ≤ 100000) (h : SE s p (.dct (epK ep kvs y) (putK kvs y v)) K) : ST (.ref p) y v s K := ⟨_, by simp only [setItem, hp, hk, so_le hz, Bool.and_self, if_true], h⟩
theorem ex_fset (o : CE) (f : Str) (a : CE) : exS P X (.fset o f a) e s = lft e (evE P X a e s) fun v s1 => lft e (evE P X o e s1) fun x s2 => (match x with
    | .ref p => (match s2.M[p]? with
      | some (.ins c fs) => if P.fok c f && decide (fs.length < 1000) then some (.nx e (s2.set p (.ins c (putFd f v fs)))) else none
      | _ => none)
    | _ => none) := rfl
def FS (P : Ev) (f : Str) (x v : D) (s : HS b) (K : HS b → Prop) : Prop := ∃ p c fs, x = .ref p ∧ s.M[p]? = some (.ins c fs) ∧ P.fok c f = true ∧ fs.length < 1000 ∧ SE s p (.ins c (putFd f v fs)) K
theorem k_fs {p : Nat} {c f : Str} {fs : List (Str × D)} {v : D} {K : HS b → Prop} (hp : s.M[p]? = some (.ins c fs)) (h1 : P.fok c f = true) (hz : fs.length < 1000) (h : SE s p (.ins c (putFd f v fs)) K) : FS P f (.ref p) v s K := ⟨p, c, fs, rfl, hp, h1, hz, h⟩
theorem z_fset {o a : CE} {f : Str} (h : W (evE P X a e s) (fun v s1 => W (evE P X o e s1) (fun x s2 => FS P f x v s2 fun S => N e S) (fun c fs s1 => EE c fs e s1)) (fun c fs s1 => EE c fs e s1)) : WS (exS P X (.fset o f a) e s) N T EE := by
  rw [ex_fset, WS_lft]
  refine h.mono (fun v s1 h => ?_) fun _ _ _ z => z
  rw [WS_lft]
  refine h.mono (fun x s2 h => ?_) fun _ _ _ z => z
  obtain ⟨p, c, fs, rfl, hp, h1, hz, h⟩ := h
  simp only [hp, h1, decide_eq_true hz, Bool.and_self, if_true]
  exact h
theorem a_app {Q : D → HS b → Prop} {E : XW b} {p : Nat} {ys : List D} {v : D} (hp : s.M[p]? = some (.lst true ys)) (hz : ys.length + 1 ≤ 100000) (h : SE s p (.lst true (ys ++ [v])) fun S => Q .non S) : W (meth .append (.ref p) [v] s) Q E := w_app hp (so_le hz) h
theorem x_mt {m : MT} {M : List MO} {x : D} {A : Prop} (h : mtOk m M x = true) (q : A) : mtOk m M x = true ∧ A := ⟨h, q⟩
theorem z_find {at_ : Nat → HS b → Option (Option D)} {xs : List D} {turn : D → Env → HS b → Option (SR b)} {fu : Nat} (g : D → Option D) (Inv : Env → HS b → Prop) (IT : HS b → Prop) (h0 : Inv e s) (hf : xs.length < fu) (hl : ∀ e1 s1, Inv e1 s1 → ∀ i, at_ i s1 = some xs[i]?)
    (hs : ∀ d ∈ xs, ∀ e1 s1, Inv e1 s1 → WS (turn d e1 s1) (fun e2 s2 => Inv e2 s2 ∧ g d = none) (fun r s2 => g d = some r ∧ IT s2) EE) (hN : xs.findSome? g = none → ∀ e2 s2, Inv e2 s2 → N e2 s2) (hT : ∀ r s2, xs.findSome? g = some r → IT s2 → T r s2) : WS (forL at_ turn fu 0 e s) N T EE := by
  refine forL_W xs.length (fun i e s => i ≤ xs.length ∧ Inv e s ∧ (xs.take i).findSome? g = none) (fun i e1 s1 ⟨hi, h, hn⟩ => ⟨hi, ?_⟩) fu 0 e s hf ⟨Nat.zero_le _, h0, rfl⟩
  by_cases hlt : i < xs.length
  · have e1' : xs[i]? = some xs[i] := by simp [hlt]
    have et : xs.take (i + 1) = xs.take i ++ [xs[i]] := by rw [List.take_add_one, e1']; rfl
    refine .inr ⟨hlt, xs[i], by rw [hl e1 s1 h, e1'], (hs _ (List.getElem_mem hlt) e1 s1 h).mono (fun e2 s2 ⟨z1, z2⟩ => ⟨hlt, z1, ?_⟩) (fun r s2 ⟨z1, z2⟩ => hT r s2 ?_ z2) fun _ _ _ _ z => z⟩
    · rw [et, List.findSome?_append, hn]
      simp [z2]
    · have : xs = xs.take i ++ xs[i] :: xs.drop (i + 1) := by
        rw [← List.drop_eq_getElem_cons hlt, List.take_append_drop]
      have e3 : xs.findSome? g = (xs.take i ++ xs[i] :: xs.drop (i + 1)).findSome? g := congrArg _ this
      rw [e3, List.findSome?_append, hn, Option.none_or, List.findSome?_cons, z1]
  · have : i = xs.length := by omega
    subst this
    rw [List.take_length] at hn
    exact .inl ⟨by rw [hl e1 s1 h]; simp, hN hn e1 s1 h⟩
end
end PV
local macro_rules | `(tactic| walk_at "hhas") => `(tactic| first | assumption | ((refine PV.Has.get (i := 0) (L := ?hl) ?hh ?hr); (case hh => assumption); (case hr => rfl)) | ((refine PV.Has.get (i := 1) (L := ?hl) ?hh ?hr); (case hh => assumption); (case hr => rfl)) | ((refine PV.Has.get (i := 2) (L := ?hl) ?hh ?hr); (case hh => assumption); (case hr => rfl)) | ((refine PV.Has.get (i := 3) (L := ?hl) ?hh ?hr); (case hh => assumption); (case hr => rfl)) | ((refine PV.Has.get (i := 4) (L := ?hl) ?hh ?hr); (case hh => assumption); (case hr => rfl)) | ((refine PV.Has.get (i := 5) (L := ?hl) ?hh ?hr); (case hh => assumption); (case hr => rfl)) | ((refine PV.Has.get (i := 6) (L := ?hl) ?hh ?hr); (case hh => assumption); (case hr => rfl)) | ((refine PV.Has.get (i := 7) (L := ?hl) ?hh ?hr); (case hh => assumption); (case hr => rfl)) | ((refine PV.Has.get (i := 8) (L := ?hl) ?hh ?hr); (case hh => assumption); (case hr => rfl)) | ((refine PV.Has.get (i := 9) (L := ?hl) ?hh ?hr); (case hh => assumption); (case hr => rfl)) | ((refine PV.Has.get (i := 10) (L := ?hl) ?hh ?hr); (case hh => assumption); (case hr => rfl)) | ((refine PV.Has.get (i := 11) (L := ?hl) ?hh ?hr); (case hh => assumption); (case hr => rfl)))
local macro_rules | `(tactic| walk_at "ssl") => `(tactic| repeat (first | exact List.Sublist.refl _ | exact List.nil_sublist _ | refine List.Sublist.cons₂ _ ?_ | refine List.Sublist.cons _ ?_))
local macro_rules | `(tactic| walk_at "kq1") => `(tactic| first | (with_reducible refine PV.a_lst ?_) | (with_reducible refine PV.a_dct0 ?_) | (with_reducible refine PV.a_lc ?_) | (with_reducible refine PV.a_listT ?_) | (with_reducible refine PV.w_fld ?_) | (with_reducible refine PV.w_mc ?_) | (with_reducible refine PV.a_dc ?_) | (with_reducible refine PV.a_sub ?_) | (with_reducible refine PV.z_fset ?_) | ((with_reducible refine PV.w_isC ?wx ?_); (case wx => rfl)) | ((with_reducible refine PV.w_ixt (d := ?wd) ?wx ?_); (case wx => rfl)) | ((with_reducible refine PV.w_ixr (w := ?wa) (xs := ?wb) (d := ?wd) ?wx ?wy ?_); (case wx => walk_at "hhas"); (case wy => rfl)) | ((with_reducible refine PV.k_fl (c := ?wa) (fs := ?wb) (d := ?wd) ?wx ?wy ?wz ?_); (case wx => walk_at "hhas"); (case wy => rfl); (case wz => rfl)) | ((with_reducible refine PV.k_ic (c' := ?wa) (fs := ?wb) ?wx ?wy ?_); (case wx => walk_at "hhas"); (case wy => rfl)) | ((with_reducible refine PV.w_lenD (ep := ?wa) (kvs := ?wb) ?wx ?_); (case wx => walk_at "hhas")) | ((with_reducible refine PV.w_srcL (w := ?wa) (xs := ?wb) ?wx ?_); (case wx => walk_at "hhas")) | ((with_reducible refine PV.tt_ref (w := ?wa) (xs := ?wb) ?wx ?_); (case wx => walk_at "hhas")) | ((with_reducible refine PV.x_mt ?wx ?_); (case wx => first | exact PV.mt_app (by walk_at "hhas") | exact PV.mt_get (by walk_at "hhas"))) | walk_at "w1")
local macro_rules | `(tactic| walk_at "kqq") => `(tactic| repeat walk_at "kq1")
set_option Elab.async false
set_option linter.all false
set_option maxRecDepth 100000
set_option maxHeartbeats 2000000
namespace PV
open PySem
variable {b : List MO}
section
variable {pg : Pg} {k : Nat} {s : HS b} {Q : D → HS b → Prop} {E : XW b} {L : OL}
theorem Has.pool {i p : Nat} {x y : Int} (H : Has s L) (hi : L[i]? = some (p, .lst true [.int x, .int y])) : Pool s p := ⟨x, y, H.get hi⟩
theorem Has.drw {i p : Nat} {x y : Int} {S : HS b} (H : Has s L) (hi : L[i]? = some (p, .lst true [.int x, .int y])) (d : Drw p s S) : ∃ x' y', Has S (L.set i (p, .lst true [.int x', .int y'])) := by
  obtain ⟨x', y', e⟩ := d.pool
  have h2 := H.set hi (.lst true [.int x', .int y'])
  refine ⟨x', y', d.wf, fun q hq => ?_, h2.nd⟩
  have hl : i < L.length := (List.getElem?_eq_some_iff.mp hi).1
  obtain ⟨j, hj⟩ := List.mem_iff_getElem?.mp hq
  by_cases ej : j = i
  · subst ej
    rw [List.getElem?_set_self hl] at hj
    cases hj
    exact e
  · rw [List.getElem?_set_ne (Ne.symm ej)] at hj
    have h3 := H.get (q := q.1) (o := q.2) hj
    refine at_drw d (fun z => ej ?_) h3
    have hj' := (List.getElem?_eq_some_iff.mp hj).1
    have a1 : (L.map (·.1))[j]? = some p := by rw [List.getElem?_map, hj, ← z]; rfl
    have a2 : (L.map (·.1))[i]? = some p := by rw [List.getElem?_map, hi]; rfl
    exact (List.getElem?_inj (by simpa using hj') H.nd).mp (a1.trans a2.symm)
theorem k_draw {f p i : Nat} {x y n : Int} (hf : pg.tb f = some ⟨2, 3, bDraw⟩) (H : Has s L) (hi : L[i]? = some (p, .lst true [.int x, .int y])) (hn : 0 < n) (hz : n ≤ 10 ^ 40)
    (h : ∀ (v x' y' : Int) (S : HS b), 0 ≤ v → v < n → Has S (L.set i (p, .lst true [.int x', .int y'])) → Q (.int v) S) : W (callF pg (k + 1) f [.ref p, .int n] s) Q E := by
  refine w_draw hf H.wf (H.pool hi) hn hz fun v S v0 v1 _ d => ?_
  obtain ⟨x', y', H'⟩ := H.drw hi d
  exact h v x' y' S v0 v1 H'
theorem k_hand {f q : Nat} {n : Int} {ns : List Int} {w : Bool} (hf : pg.tb f = some ⟨2, 4, bHand⟩) (hq : s.M[q]? = some (.lst w (ns.map D.int))) (hl : ns.length ≤ 1000) (h : ∀ a c : Int, AL s (.lst true [.int a, .int c]) fun q S => Q (.ref q) S) : W (callF pg (k + 1) f [.ref q, .int n] s) Q E := w_hand hf hq hl h
theorem fin_al {s1 : HS s.M} {q : Nat} {ys : List D} (hlo : s1.lo = s.M.length) (hq : s.M.length ≤ q) (hm : s1.M[q]? = some (.lst true ys)) (hi : D.immL ys = true) (h : AL s (.lst true ys) fun q S => Q (.ref q) S) : W (fin s (.ref q) s1) Q E := f_lst hlo hq hm hi h
theorem h_keep {s1 : HS s.M} {L1 : OL} {d : D} (h1 : Has s1 L1) (hd : d.imm = false) (hr : ∀ p, d ≠ .ref p) (q : ∀ S, Has S L1 → Q d S) : W (fin s d s1) Q E := by
  have e : fin s d s1 = ret d (s.back s1) := by
    unfold fin
    split
    · have : pull s.M.length s1.M d = none := by
        cases d <;> first | exact absurd rfl (hr _) | (simp only [pull]; rw [hd]; rfl)
      rw [this]
    · rfl
  exact w_is e (q _ h1.back)
end
theorem smi_allW {w : Nat} : ∀ {xs : List D}, (∀ x ∈ xs, (pdD x).weight ≤ w) → PyData.weightAll (pdL xs) ≤ (w + 1) * xs.length
  | [], _ => by simp [pdL, PyData.weightAll]
  | x :: xs, h => by
    have h0 := h x List.mem_cons_self
    have h1 := smi_allW (xs := xs) fun y hy => h y (List.mem_cons_of_mem _ hy)
    simp only [pdL, PyData.weightAll, List.length_cons, Nat.mul_succ]
    omega
theorem sm_lstW {xs : List D} {w : Nat} (h : ∀ x ∈ xs, SmI x) (hw : ∀ x ∈ xs, (pdD x).weight ≤ w) (hl : (w + 1) * xs.length ≤ 200000) : Sm (.list (pdL xs)) := by
  obtain ⟨h1, h2, h3, h4, _, h6⟩ := smi_all h
  have h5 := smi_allW hw
  refine ⟨?_, ?_, ?_, ?_, ?_⟩
  · simpa [PyData.canLay0] using h2
  · simpa [PyData.showable] using h3
  · simpa [PyData.leavesShort] using h4
  · simp only [PyData.weight]; omega
  · simp only [PyData.depth]; omega
theorem wt_int {i : Int} (h : i.natAbs < 1024) : (pdD (.int i)).weight ≤ 10 := by
  simp only [pdD, PyData.weight]
  split
  · omega
  · rename_i hz
    have : i.natAbs.log2 < 10 := (Nat.log2_lt (by simpa using hz)).mpr h
    omega
theorem smi_hv {v : List Int} (h : ∀ x ∈ v, x.natAbs < 1024) (hl : v.length ≤ 4) : SmI (hv v) ∧ (pdD (hv v)).weight ≤ 44 := by
  have ha : ∀ x ∈ v.map D.int, SmI x := fun x hx => by
    obtain ⟨i, hi, rfl⟩ := List.mem_map.mp hx
    exact smi_int (Nat.lt_of_lt_of_le (h i hi) (by decide +kernel))
  have hw : ∀ x ∈ v.map D.int, (pdD x).weight ≤ 10 := fun x hx => by
    obtain ⟨i, hi, rfl⟩ := List.mem_map.mp hx
    exact wt_int (h i hi)
  obtain ⟨h1, h2, h3, h4, _, h6⟩ := smi_all ha
  have h5 := smi_allW hw
  have hd : PyData.depthAll (pdL (v.map D.int)) ≤ 1 := (pl_tup (n := 1) fun x hx => by
    obtain ⟨i, hi, rfl⟩ := List.mem_map.mp hx
    exact pl_int i).2
  rw [List.length_map] at h5
  have e : (pdD (hv v)).weight ≤ 44 := by
    simp only [hv, pdD, PyData.weight]; omega
  refine ⟨⟨h1, ?_, ?_, ?_, by omega, ?_⟩, e⟩
  · simpa [hv, pdD, PyData.canLay0] using h2
  · simpa [hv, pdD, PyData.showable] using h3
  · simpa [hv, pdD, PyData.leavesShort] using h4
  · simp only [hv, pdD, PyData.depth]; omega
theorem smi_pv {p : List Int × List Int} (h1 : ∀ x ∈ p.1, x.natAbs < 1024) (l1 : p.1.length ≤ 4) (h2 : ∀ x ∈ p.2, x.natAbs < 1024) (l2 : p.2.length ≤ 4) : SmI (pv p) ∧ (pdD (pv p)).weight ≤ 90 := by
  obtain ⟨a, wa⟩ := smi_hv h1 l1
  obtain ⟨c, wc⟩ := smi_hv h2 l2
  have da : (pdD (hv p.1)).depth ≤ 2 := (pl_tupl (n := 1) (fun x hx => by
    obtain ⟨i, hi, rfl⟩ := List.mem_map.mp hx
    exact pl_int i)).dep
  have dc : (pdD (hv p.2)).depth ≤ 2 := (pl_tupl (n := 1) (fun x hx => by
    obtain ⟨i, hi, rfl⟩ := List.mem_map.mp hx
    exact pl_int i)).dep
  refine ⟨⟨pv_imm p, ?_, ?_, ?_, ?_, ?_⟩, ?_⟩
  · simp [pv, pdD, pdL, PyData.canLay0, PyData.canLayAll0, a.lay, c.lay]
  · simp [pv, pdD, pdL, PyData.showable, PyData.showableAll, a.sh, c.sh]
  · simp [pv, pdD, pdL, PyData.leavesShort, PyData.leavesShortAll, a.lv, c.lv]
  · simp only [pv, pdD, pdL, PyData.weight, PyData.weightAll]; omega
  · simp only [pv, pdD, pdL, PyData.depth, PyData.depthAll]; omega
  · simp only [pv, pdD, pdL, PyData.weight, PyData.weightAll]; omega
structure Bx (l : List Int) : Prop where
  ok : boxB (hv l) = true
  pos : ∀ m ∈ l, 0 ≤ m
  le : ∀ m ∈ l, m < 1000
  sz : prodS l ≤ 64
  ln : l.length ≤ 3
  any : l.any (· != 0) = true
def bxB (l : List Int) : Bool := boxB (hv l) && (l.all fun m => decide (0 ≤ m) && decide (m < 1000)) && decide (prodS l ≤ 64) && decide (l.length ≤ 3) && l.any (· != 0)
theorem bx_of {l : List Int} (h : bxB l = true) : Bx l := by
  simp only [bxB, Bool.and_eq_true, List.all_eq_true, decide_eq_true_eq] at h
  obtain ⟨⟨⟨⟨h1, h2⟩, h3⟩, h4⟩, h5⟩ := h
  exact ⟨h1, fun m hm => (h2 m hm).1, fun m hm => (h2 m hm).2, h3, h4, h5⟩
theorem Bx.lim {l : List Int} (h : Bx l) : Lim l := lim_of h.pos (by have := h.sz; omega) (by have := h.ln; omega)
def bHeapsIn : List CS := [(.exp (.call 17 [.var 0])), (.ret (.call 14 [.var 0]))]
structure Kit (pg : Pg) : Prop where
  fu : pg.fu = 1000000
  t0 : pg.tb 0 = some ⟨1, 1, bIsInt⟩
  t2 : pg.tb 2 = some ⟨1, 2, bCounts 0⟩
  t11 : pg.tb 11 = some ⟨1, 1, bKey⟩
  t12 : pg.tb 12 = some ⟨2, 4, bSub⟩
  t13 : pg.tb 13 = some ⟨1, 5, bVecs⟩
  t14 : pg.tb 14 = some ⟨1, 2, bHeaps 13 11⟩
  t15 : pg.tb 15 = some ⟨1, 1, bParts 14⟩
  t16 : pg.tb 16 = some ⟨1, 3, bBox 2⟩
  t17 : pg.tb 17 = some ⟨1, 1, bCheck 2 16⟩
  t18 : pg.tb 18 = some ⟨1, 1, bHeapsIn⟩
  t19 : pg.tb 19 = some ⟨1, 3, bPairs 17 14 15 12⟩
  x2 : pg.flds 2 = [Str.ofString "value"]
section
variable {pg : Pg} {k : Nat} {s : HS b} {Q : D → HS b → Prop} {E : XW b} {L : OL} {l : List Int} {x : D}
theorem Kit.box (K : Kit pg) (h : AskD s.M x) (q : Q (.bl (boxB x)) s) : W (callF pg (k + 3) 16 [x] s) Q E := w_box K.t16 K.t2 K.t0 K.fu h q
theorem Kit.check (K : Kit pg) (hw : s.wf) (h : AskD s.M x) (q1 : boxB x = true → Q .non s) (q2 : boxB x = false → E 2 [("value", x)] s) : W (callF pg (k + 4) 17 [x] s) Q E := w_check K.t17 K.t16 K.t2 K.t0 K.fu K.x2 hw h q1 q2
theorem Kit.heaps (K : Kit pg) (h : Lim l) (q : AL s (.lst true ((hps l).map hv)) fun q S => Q (.ref q) S) : W (callF pg (k + 2) 14 [hv l] s) Q E := w_heaps K.t14 K.t13 K.t11 K.fu h q
theorem Kit.parts (K : Kit pg) (h : Lim l) (q : AL s (.lst true ((prts l).map hv)) fun q S => Q (.ref q) S) : W (callF pg (k + 3) 15 [hv l] s) Q E := w_parts K.t15 K.t14 K.t13 K.t11 K.fu h q
theorem Kit.heapsIn (K : Kit pg) (h : Bx l) (q : AL s (.lst true ((hps l).map hv)) fun q S => Q (.ref q) S) : W (callF pg (k + 5) 18 [hv l] s) Q E := by
  refine W_call K.t18 rfl ?_
  walk_at "w0"
  show WS (exB _ _ [_, _] _ _) _ _ _
  walk_at "kqq"
  refine K.check (k := k) (start_wf _) (ask_imm (hv_imm l)) (fun _ => ?_) (fun z => ?_)
  · walk_at "kqq"
    refine K.heaps (k := k + 2) h.lim ?_
    refine k_alx ⟨start_wf _, (fun p hp => nomatch hp : ∀ p ∈ ([] : OL), _), List.nodup_nil⟩ fun q S hq hS hlo H => ?_
    exact fin_al hlo hq (H.get (i := 0) rfl) (hvs_imm _) ‹_›
  · rw [h.ok] at z
    cases z
theorem Kit.heapsBad (K : Kit pg) (hw : s.wf) (ha : AskD s.M x) (hb : boxB x = false) (q : E 2 [("value", x)] s) : W (callF pg (k + 5) 18 [x] s) Q E := by
  refine W_call K.t18 rfl ?_
  walk_at "w0"
  show WS (exB _ _ [_, _] _ _) _ _ _
  walk_at "kqq"
  refine K.check (k := k) (start_wf _) ha (fun z => ?_) (fun z => ?_)
  · rw [hb] at z
    cases z
  · show E _ _ (s.back (HS.start s.M))
    rw [back_start hw]
    exact q
theorem Kit.pairsBad (K : Kit pg) (hw : s.wf) (ha : AskD s.M x) (hb : boxB x = false) (q : E 2 [("value", x)] s) : W (callF pg (k + 5) 19 [x] s) Q E := by
  refine W_call K.t19 rfl ?_
  walk_at "w0"
  show WS (exB _ _ [_, _] _ _) _ _ _
  walk_at "kqq"
  refine K.check (k := k) (start_wf _) ha (fun z => ?_) (fun z => ?_)
  · rw [hb] at z
    cases z
  · show E _ _ (s.back (HS.start s.M))
    rw [back_start hw]
    exact q
theorem Kit.pairs (K : Kit pg) (h : Bx l) (q : AL s (.lst true ((prs l).map pv)) fun q S => Q (.ref q) S) : W (callF pg (k + 5) 19 [hv l] s) Q E := by
  refine w_pairs (k := k + 1) K.t19 K.t14 K.t15 K.t12 K.t13 K.t11 K.fu h.pos (by have := h.sz; omega) (by have := h.ln; omega) (fun s0 => eq_of_W ?_) q
  by_cases hw : s0.wf
  · refine K.check (k := k) hw (ask_imm (hv_imm l)) (fun _ => ⟨rfl, rfl⟩) (fun z => ?_)
    rw [h.ok] at z
    cases z
  · refine W_call K.t17 rfl ?_
    walk_at "w0"
    show WS (exB _ _ [_] _ _) _ _ _
    walk_at "kqq"
    refine K.box (k := k) (ask_imm (hv_imm l)) ?_
    rw [h.ok]
    walk_at "kqq"
    exact f_imm rfl rfl ⟨rfl, rfl⟩
end
theorem Bel.small {v w : List Int} (h : Bel v w) (hw : ∀ m ∈ w, m < 1000) : ∀ x ∈ v, x.natAbs < 1024 := by
  induction v generalizing w with
  | nil => intro x hx; cases hx
  | cons t ts ih =>
    cases w with
    | nil => exact absurd h (by simp [Bel])
    | cons m l =>
      intro x hx
      have h' := h
      simp only [Bel] at h'
      rcases List.mem_cons.mp hx with rfl | hx
      · have := hw m List.mem_cons_self
        omega
      · exact ih h'.2.2 (fun y hy => hw y (List.mem_cons_of_mem _ hy)) x hx
end PV
set_option Elab.async false
set_option linter.all false
set_option maxRecDepth 100000
set_option maxHeartbeats 2000000
namespace PV
open PySem
variable {b : List MO}
structure LKit (pg : Pg) : Prop where
  fu : pg.fu = 1000000
  hand : pg.tb 1000 = some ⟨2, 4, bHand⟩
  draw : pg.tb 1001 = some ⟨2, 3, bDraw⟩
  heaps : pg.tb 1009 = some ⟨1, 7, bLHeaps⟩
  less : pg.tb 1010 = some ⟨2, 4, bLess⟩
  parts : pg.tb 1011 = some ⟨1, 2, bLParts 1009⟩
  pairs : pg.tb 1012 = some ⟨1, 4, bLPairs 1009 1011 1010⟩
section
variable {pg : Pg} {k : Nat} {s : HS b} {Q : D → HS b → Prop} {E : XW b} {L : OL} {l : List Int} {x : D}
theorem LKit.kheaps (K : LKit pg) (h : Lim l) (q : AL s (.lst true ((hps l).map hv)) fun q S => Q (.ref q) S) : W (callF pg (k + 1) 1009 [hv l] s) Q E := w_lheaps K.heaps K.fu h q
theorem LKit.kparts (K : LKit pg) (h : Lim l) (hz : prodS l ≤ 1000) (h1 : l.any (· != 0) = true) (q : AL s (.lst true ((prts l).map hv)) fun q S => Q (.ref q) S) : W (callF pg (k + 2) 1011 [hv l] s) Q E := w_lparts K.parts K.heaps K.fu h hz h1 q
theorem LKit.kpairs (K : LKit pg) (h : Bx l) (q : AL s (.lst true ((prs l).map pv)) fun q S => Q (.ref q) S) : W (callF pg (k + 3) 1012 [hv l] s) Q E := w_lpairs K.pairs K.heaps K.parts K.less K.fu h.pos (by have := h.sz; omega) (by have := h.ln; omega) q
theorem LKit.kless (K : LKit pg) {w v : List Int} (hn : w.length ≤ 1000) (q : Q (hv (diff w v)) s) : W (callF pg (k + 1) 1010 [hv w, hv v] s) Q E := w_less K.less K.fu hn q
end
theorem has_st (o : MO) : Has (HS.start [o]) [(0, o)] := ⟨start_wf _, fun p hp => by rw [List.mem_singleton.mp hp]; rfl, by simp⟩
theorem ev_of {pg : Pg} {k f : Nat} {o : MO} (h : ∀ {b : List MO} (s : HS b), Has s [(0, o)] → W (callF pg k f [.ref 0] s) (fun d _ => d = .bl true) X0) : ∃ s, callF pg k f [.ref 0] (HS.start [o]) = some (.ok (.bl true) s) := by
  generalize hs : HS.start [o] = s
  have H : Has s [(0, o)] := hs ▸ has_st o
  obtain ⟨d, s', e, rfl⟩ := W.get (h s H)
  exact ⟨s', e⟩
theorem fin_true {b : List MO} {s : HS b} {s1 : HS s.M} : W (fin s (.bl true) s1) (fun d _ => d = .bl true) X0 := by
  by_cases hl : s1.lo = s.M.length
  · exact f_imm hl rfl rfl
  · exact f_keep hl rfl
theorem sm_hps {l : List Int} (h : Bx l) : Sm (.list (pdL ((hps l).map hv))) := by
  refine sm_lstW (w := 44) (fun x hx => ?_) (fun x hx => ?_) ?_
  · obtain ⟨v, hv', rfl⟩ := List.mem_map.mp hx
    have hb := (mem_hps.mp hv').1
    exact (smi_hv (hb.small h.le) (by have := h.ln; rw [hb.len]; omega)).1
  · obtain ⟨v, hv', rfl⟩ := List.mem_map.mp hx
    have hb := (mem_hps.mp hv').1
    exact (smi_hv (hb.small h.le) (by have := h.ln; rw [hb.len]; omega)).2
  · have := hps_len l
    have := h.sz
    rw [List.length_map]
    have : 45 * (hps l).length ≤ 45 * 64 := Nat.mul_le_mul_left _ (by omega)
    omega
theorem diff_small : ∀ {v w : List Int}, Bel v w → (∀ m ∈ w, m < 1000) → (∀ x ∈ diff w v, x.natAbs < 1024) ∧ (diff w v).length = w.length
  | [], [], _, _ => ⟨(fun x hx => nomatch hx), rfl⟩
  | t :: ts, m :: l, h, hw => by
    simp only [Bel] at h
    obtain ⟨h1, h2⟩ := diff_small h.2.2 fun y hy => hw y (List.mem_cons_of_mem _ hy)
    have := hw m List.mem_cons_self
    refine ⟨fun x hx => ?_, ?_⟩
    · rcases List.mem_cons.mp (show x ∈ (m - t) :: diff l ts from hx) with rfl | hx
      · omega
      · exact h1 x hx
    · show (diff l ts).length + 1 = l.length + 1
      rw [h2]
  | [], _ :: _, h, _ => by simp [Bel] at h
  | _ :: _, [], h, _ => by simp [Bel] at h
theorem Bel.trans : ∀ {u v w : List Int}, Bel u v → Bel v w → Bel u w
  | [], [], [], _, _ => True.intro
  | a :: u, c :: v, d :: w, h1, h2 => by
    simp only [Bel] at h1 h2 ⊢
    exact ⟨h1.1, by omega, Bel.trans h1.2.2 h2.2.2⟩
  | [], _ :: _, _, h, _ => by simp [Bel] at h
  | _ :: _, [], _, h, _ => by simp [Bel] at h
  | [], [], _ :: _, _, h => by simp [Bel] at h
  | _ :: _, _ :: _, [], _, h => by simp [Bel] at h
theorem Bel.le1000 {v w : List Int} (h : Bel v w) (hw : ∀ m ∈ w, m < 1000) : ∀ x ∈ v, x < 1000 := by
  induction v generalizing w with
  | nil => intro x hx; cases hx
  | cons t ts ih =>
    cases w with
    | nil => exact absurd h (by simp [Bel])
    | cons m l =>
      intro x hx
      have h' := h
      simp only [Bel] at h'
      rcases List.mem_cons.mp hx with rfl | hx
      · have := hw m List.mem_cons_self
        omega
      · exact ih h'.2.2 (fun y hy => hw y (List.mem_cons_of_mem _ hy)) x hx
theorem mem_prs {l : List Int} {p : List Int × List Int} (h : p ∈ prs l) : ∃ w, w ∈ hps l ∧ p.1 ∈ prts w ∧ p.2 = diff w p.1 := by
  obtain ⟨w, hw, h2⟩ := List.mem_flatMap.mp h
  obtain ⟨v, hv', rfl⟩ := List.mem_map.mp h2
  exact ⟨w, hw, hv', rfl⟩
theorem smi_prs {l : List Int} (h : Bx l) {p : List Int × List Int} (hp : p ∈ prs l) : SmI (pv p) ∧ (pdD (pv p)).weight ≤ 90 := by
  obtain ⟨w, hw, h1, h2⟩ := mem_prs hp
  have bw := (mem_hps.mp hw).1
  have bp := mem_prts h1
  have lw := bw.le1000 h.le
  obtain ⟨d1, d2⟩ := diff_small bp lw
  have := bw.len
  have := bp.len
  have := h.ln
  exact smi_pv (bp.small lw) (by omega) (by rw [h2]; exact d1) (by rw [h2, d2]; omega)
theorem prs_sz {l : List Int} (h : Bx l) (hz : prodS l ≤ 40) : (prs l).length ≤ 1600 := by
  have h1 : (prs l).length ≤ (hps l).length * 40 := flat_len fun w hw => by
    rw [List.length_map]
    exact Nat.le_trans (prts_len w) (Nat.le_trans (mem_hps.mp hw).1.prod hz)
  have := hps_len l
  have h2 : (hps l).length * 40 ≤ 40 * 40 := Nat.mul_le_mul (by omega) (Nat.le_refl _)
  omega
theorem sm_prs {l : List Int} (h : Bx l) (hz : prodS l ≤ 40) : Sm (.list (pdL ((prs l).map pv))) := by
  refine sm_lstW (w := 90) (fun x hx => ?_) (fun x hx => ?_) ?_
  · obtain ⟨p, hp, rfl⟩ := List.mem_map.mp hx
    exact (smi_prs h hp).1
  · obtain ⟨p, hp, rfl⟩ := List.mem_map.mp hx
    exact (smi_prs h hp).2
  · have := prs_sz h hz
    rw [List.length_map]
    have : 91 * (prs l).length ≤ 91 * 1600 := Nat.mul_le_mul_left _ this
    omega
end PV
set_option Elab.async false
set_option linter.all false
set_option maxRecDepth 100000
set_option maxHeartbeats 2000000
namespace PV
open PySem
theorem getK_cons (k0 v0 : D) (r : KV) (k : D) : getK ((k0, v0) :: r) k = if NestedKey.beq (kD k0) (kD k) then some v0 else getK r k := by
  unfold getK fiK
  rw [List.findIdx?_cons]
  cases NestedKey.beq (kD k0) (kD k) with
  | true => rfl
  | false =>
    simp only [if_false, Bool.false_eq_true]
    cases r.findIdx? fun p => NestedKey.beq (kD p.1) (kD k) <;> simp
theorem putK_cons (k0 v0 : D) (r : KV) (k v : D) : putK ((k0, v0) :: r) k v = if NestedKey.beq (kD k0) (kD k) then (k0, v) :: r else (k0, v0) :: putK r k v := by
  unfold putK fiK
  rw [List.findIdx?_cons]
  cases NestedKey.beq (kD k0) (kD k) with
  | true => rfl
  | false =>
    simp only [if_false, Bool.false_eq_true]
    cases r.findIdx? fun p => NestedKey.beq (kD p.1) (kD k) <;> simp
section
variable {α : Type} [DecidableEq α]
def dOf (kd : α → D) (v : α → D) (ks : List α) : KV := ks.map fun k => (kd k, v k)
def KInj (kd : α → D) : Prop := ∀ a c, NestedKey.beq (kD (kd a)) (kD (kd c)) = decide (a = c)
def upF {β : Type} (v : α → β) (a : α) (x : β) : α → β := fun c => if c = a then x else v c
variable {kd : α → D} {v : α → D} {ks : List α} {a : α} {x : D}
theorem getK_in (h : KInj kd) : a ∈ ks → getK (dOf kd v ks) (kd a) = some (v a) := by
  induction ks with
  | nil => intro z; cases z
  | cons c ks ih =>
    intro z
    show getK ((kd c, v c) :: dOf kd v ks) (kd a) = _
    rw [getK_cons, h]
    by_cases e : c = a
    · subst e
      simp
    · rw [decide_eq_false e]
      simp only [if_false, Bool.false_eq_true]
      rcases List.mem_cons.mp z with z | z
      · exact absurd z.symm e
      · exact ih z
theorem getK_out (h : KInj kd) : a ∉ ks → getK (dOf kd v ks) (kd a) = none := by
  induction ks with
  | nil => intro _; rfl
  | cons c ks ih =>
    intro z
    show getK ((kd c, v c) :: dOf kd v ks) (kd a) = _
    rw [List.mem_cons, not_or] at z
    rw [getK_cons, h, decide_eq_false (fun e => z.1 e.symm)]
    simp only [if_false, Bool.false_eq_true]
    exact ih z.2
theorem dOf_congr {u w : α → D} (h : ∀ c ∈ ks, u c = w c) : dOf kd u ks = dOf kd w ks := List.map_congr_left fun c hc => by rw [h c hc]
theorem putK_in (h : KInj kd) : ks.Nodup → a ∈ ks → putK (dOf kd v ks) (kd a) x = dOf kd (upF v a x) ks := by
  induction ks with
  | nil => intro _ z; cases z
  | cons c ks ih =>
    intro nd z
    rw [List.nodup_cons] at nd
    show putK ((kd c, v c) :: dOf kd v ks) (kd a) x = (kd c, upF v a x c) :: dOf kd (upF v a x) ks
    rw [putK_cons, h]
    by_cases e : c = a
    · subst e
      simp only [decide_true, if_true, upF]
      congr 1
      exact dOf_congr fun y hy => by
        have : y ≠ c := fun z => nd.1 (z ▸ hy)
        simp only [upF, if_neg this]
    · rw [decide_eq_false e]
      simp only [if_false, Bool.false_eq_true]
      rcases List.mem_cons.mp z with z | z
      · exact absurd z.symm e
      · rw [ih nd.2 z]
        congr 2
        simp only [upF, if_neg e]
theorem putK_out (h : KInj kd) : a ∉ ks → putK (dOf kd v ks) (kd a) x = dOf kd (upF v a x) (ks ++ [a]) := by
  induction ks with
  | nil =>
    intro _
    show putK [] (kd a) x = [(kd a, upF v a x a)]
    simp only [upF, if_true]
    rfl
  | cons c ks ih =>
    intro z
    rw [List.mem_cons, not_or] at z
    show putK ((kd c, v c) :: dOf kd v ks) (kd a) x = (kd c, upF v a x c) :: dOf kd (upF v a x) (ks ++ [a])
    rw [putK_cons, h, decide_eq_false (fun e => z.1 e.symm)]
    simp only [if_false, Bool.false_eq_true]
    rw [ih z.2]
    congr 2
    simp only [upF, if_neg (fun e => z.1 e.symm : ¬ c = a)]
theorem upF_self (v : α → D) (a : α) : upF v a (v a) = v := by
  funext c
  unfold upF
  split
  · rename_i e; rw [e]
  · rfl
theorem foldK_dOf (h : KInj kd) : ∀ (ks ks0 : List α) (n : Nat), (ks0 ++ ks).Nodup → ∃ m, foldK (n, dOf kd v ks0) (dOf kd v ks) = (m, dOf kd v (ks0 ++ ks))
  | [], ks0, n, _ => ⟨n, by simp [dOf, foldK]⟩
  | a :: ks, ks0, n, nd => by
    have ha : a ∉ ks0 := fun z => by
      rw [List.nodup_append] at nd
      exact nd.2.2 a z a List.mem_cons_self rfl
    obtain ⟨m, e⟩ := foldK_dOf h ks (ks0 ++ [a]) (epK n (dOf kd v ks0) (kd a)) (by simpa using nd)
    refine ⟨m, ?_⟩
    show foldK (epK n (dOf kd v ks0) (kd a), putK (dOf kd v ks0) (kd a) (v a)) (dOf kd v ks) = _
    rw [putK_out h ha, upF_self, e]
    simp
end
theorem beqAll_ints : ∀ a c : List Int, NestedKey.beqAll (kDL (a.map D.int)) (kDL (c.map D.int)) = decide (a = c)
  | [], [] => rfl
  | [], _ :: _ => by simp [kDL, NestedKey.beqAll]
  | _ :: _, [] => by simp [kDL, NestedKey.beqAll]
  | x :: a, y :: c => by
    simp only [List.map_cons, kDL, kD, NestedKey.beqAll, NestedKey.beq, beqAll_ints a c]
    by_cases e : x = y
    · by_cases e2 : a = c <;> simp [e, e2]
    · simp [e]
theorem kinj_hv : KInj hv := fun a c => by
  show NestedKey.beq (.tup (kDL (a.map D.int))) (.tup (kDL (c.map D.int))) = _
  rw [NestedKey.beq, beqAll_ints]
theorem kinj_pv : KInj pv := fun a c => by
  show NestedKey.beq (.tup [kD (hv a.1), kD (hv a.2)]) (.tup [kD (hv c.1), kD (hv c.2)]) = _
  rw [NestedKey.beq, NestedKey.beqAll, NestedKey.beqAll, NestedKey.beqAll, kinj_hv, kinj_hv]
  by_cases e : a.1 = c.1
  · by_cases e2 : a.2 = c.2
    · have : a = c := Prod.ext e e2
      simp [this]
    · have : a ≠ c := fun z => e2 (by rw [z])
      simp [e2, this]
  · have : a ≠ c := fun z => e (by rw [z])
    simp [e, this]
theorem kI_ints : ∀ v : List Int, kIL (v.map D.int) = true
  | [] => rfl
  | x :: v => by simp [kIL, kI, kI_ints v]
theorem depth_ints : ∀ v : List Int, NestedKey.depthAll (kDL (v.map D.int)) ≤ 1
  | [] => by simp [kDL, NestedKey.depthAll]
  | x :: v => by
    have := depth_ints v
    simp only [List.map_cons, kDL, kD, NestedKey.depthAll, NestedKey.depth]
    omega
theorem kOk_hv (v : List Int) : kOk (hv v) = true := by
  have h1 : kI (hv v) = true := kI_ints v
  have h2 : (kD (hv v)).depth ≤ 8 := by
    show NestedKey.depth (.tup (kDL (v.map D.int))) ≤ 8
    have := depth_ints v
    simp only [NestedKey.depth]
    omega
  simp [kOk, h1, h2]
theorem kOk_pv (p : List Int × List Int) : kOk (pv p) = true := by
  have h1 : kI (pv p) = true := by
    show (kI (hv p.1) && (kI (hv p.2) && true)) = true
    rw [show kI (hv p.1) = true from kI_ints _, show kI (hv p.2) = true from kI_ints _]
    rfl
  have h2 : (kD (pv p)).depth ≤ 8 := by
    show NestedKey.depth (.tup [.tup (kDL (p.1.map D.int)), .tup (kDL (p.2.map D.int))]) ≤ 8
    have := depth_ints p.1
    have := depth_ints p.2
    simp only [NestedKey.depth, NestedKey.depthAll]
    omega
  simp [kOk, h1, h2]
end PV
set_option Elab.async false
set_option linter.all false
set_option maxRecDepth 100000
set_option maxHeartbeats 2000000
namespace PV
open PySem
def sums (w v : List Int) : List Int := List.zipWith (· + ·) w v
def plusD : D → Option D
  | .tup [.int x, .int y] => some (.int (x + y))
  | _ => none
theorem zip_add : ∀ w v : List Int, (List.zipWith (fun x y => D.tup [x, y]) (w.map D.int) (v.map D.int)).filterMap plusD = (sums w v).map D.int
  | [], _ => by simp [sums]
  | _ :: _, [] => by simp [sums]
  | x :: w, y :: v => by
    have := zip_add w v
    simp only [List.map_cons, List.zipWith_cons_cons, List.filterMap_cons, plusD, sums] at this ⊢
    rw [this]
def leD : D → Option D
  | .tup [.int x, .int y] => some (.bl (decide (x ≤ y)))
  | _ => none
def fitsL (w v : List Int) : List Bool := List.zipWith (fun x y => decide (x ≤ y)) w v
theorem zip_le : ∀ w v : List Int, (List.zipWith (fun x y => D.tup [x, y]) (w.map D.int) (v.map D.int)).filterMap leD = (fitsL w v).map D.bl
  | [], _ => by simp [fitsL]
  | _ :: _, [] => by simp [fitsL]
  | x :: w, y :: v => by
    have := zip_le w v
    simp only [List.map_cons, List.zipWith_cons_cons, List.filterMap_cons, leD, fitsL] at this ⊢
    rw [this]
section
variable {b : List MO} {pg : Pg} {k : Nat} {s : HS b} {E : XW b} {Q : D → HS b → Prop}
def bAdd : List CS := [(.ret (.bi .tuple [.lc (.tp [2, 3]) .zipS [.var 0, .var 1] [] (.bin .add (.var 2) (.var 3)) [2, 3]]))]
def bLSum : List CS := [(.ret (.bi .tuple [.lc (.tp [2, 3]) .zip [.var 0, .var 1] [] (.bin .add (.var 2) (.var 3)) [2, 3]]))]
def bFits : List CS := [(.ret (.bi .all [.lc (.tp [2, 3]) .zipS [.var 0, .var 1] [] (.cmp .le (.var 2) (.var 3)) [2, 3]]))]
theorem zip_turnA {P : Ev} {w v : List Int} {d : D} (s : HS b) (h : d ∈ List.zipWith (fun x y => D.tup [x, y]) (w.map D.int) (v.map D.int)) : W (turnC P (.tp [2, 3]) [] (.bin .add (.var 2) (.var 3)) [some (hv w), some (hv v), none, none] d s) (fun r s1 => r = plusD d ∧ s1 = s) X0 := by
  obtain ⟨x, y, rfl⟩ := mem_zip h
  refine w_turn (e1 := [some (hv w), some (hv v), some (.int x), some (.int y)]) rfl ?_
  walk_at "ww"
  exact ⟨rfl, rfl⟩
theorem zip_turnL {P : Ev} {w v : List Int} {d : D} (s : HS b) (h : d ∈ List.zipWith (fun x y => D.tup [x, y]) (w.map D.int) (v.map D.int)) : W (turnC P (.tp [2, 3]) [] (.cmp .le (.var 2) (.var 3)) [some (hv w), some (hv v), none, none] d s) (fun r s1 => r = leD d ∧ s1 = s) X0 := by
  obtain ⟨x, y, rfl⟩ := mem_zip h
  refine w_turn (e1 := [some (hv w), some (hv v), some (.int x), some (.int y)]) rfl ?_
  walk_at "ww"
  exact ⟨rfl, rfl⟩
theorem w_add2 {f : Nat} {w v : List Int} (hf : pg.tb f = some ⟨2, 4, bAdd⟩) (fu : pg.fu = 1000000) (hl : w.length = v.length) (hn : w.length ≤ 1000) (q : Q (hv (sums w v)) s) : W (callF pg (k + 1) f [hv w, hv v] s) Q E := by
  refine W_call hf rfl ?_
  walk_at "w0"
  show WS (exB _ _ [_] _ _) _ _ _
  walk_at "ww"
  refine w_srcZS (xs := w.map D.int) (ys := v.map D.int) (by simp [hl]) ?_
  refine w_lcp plusD (by simp; show _ < pg.fu; omega) (fun d hd => zip_turnA _ hd) ?_
  rw [zip_add]
  refine w_tuple (ys := (sums w v).map D.int) (by simp [items, HS.start]) ?_
  exact f_imm rfl (hv_imm _) q
theorem w_lsum {f : Nat} {w v : List Int} (hf : pg.tb f = some ⟨2, 4, bLSum⟩) (fu : pg.fu = 1000000) (hn : w.length ≤ 1000) (q : Q (hv (sums w v)) s) : W (callF pg (k + 1) f [hv w, hv v] s) Q E := by
  refine W_call hf rfl ?_
  walk_at "w0"
  show WS (exB _ _ [_] _ _) _ _ _
  walk_at "ww"
  refine w_srcZ (xs := w.map D.int) (ys := v.map D.int) ?_
  refine w_lcp plusD (by simp; show _ < pg.fu; omega) (fun d hd => zip_turnA _ hd) ?_
  rw [zip_add]
  refine w_tuple (ys := (sums w v).map D.int) (by simp [items, HS.start]) ?_
  exact f_imm rfl (hv_imm _) q
theorem asBl : ∀ l : List Bool, asBools (l.map D.bl) = some l := fun l => by
  have := asBools_map (fun x : Bool => x) l
  simpa using this
theorem w_fits {f : Nat} {w v : List Int} (hf : pg.tb f = some ⟨2, 4, bFits⟩) (fu : pg.fu = 1000000) (hl : w.length = v.length) (hn : w.length ≤ 1000) (q : Q (.bl ((fitsL w v).all id)) s) : W (callF pg (k + 1) f [hv w, hv v] s) Q E := by
  refine W_call hf rfl ?_
  walk_at "w0"
  show WS (exB _ _ [_] _ _) _ _ _
  walk_at "ww"
  refine w_srcZS (xs := w.map D.int) (ys := v.map D.int) (by simp [hl]) ?_
  refine w_lcp leD (by simp; show _ < pg.fu; omega) (fun d hd => zip_turnL _ hd) ?_
  rw [zip_le]
  refine w_all (at_new _ _) (asBl _) ?_
  exact f_imm rfl rfl q
def bRange : List CS := [(.ret (.ands [.call 0 [.var 0], .chn .le .le (.var 1) (.var 0) (.var 2)]))]
theorem w_range {x lo hi : Int} (hf : pg.tb 1 = some ⟨3, 3, bRange⟩) (h0 : pg.tb 0 = some ⟨1, 1, bIsInt⟩) (q : Q (.bl (decide (lo ≤ x) && decide (x ≤ hi))) s) : W (callF pg (k + 2) 1 [.int x, .int lo, .int hi] s) Q E := by
  refine W_call hf rfl ?_
  walk_at "w0"
  show WS (exB _ _ [_] _ _) _ _ _
  walk_at "ww"
  refine w_isint (k := k) h0 (tyd_imm rfl) ?_
  walk_at "ww"
  refine c_t ?_
  walk_at "ww"
  refine c_d (fun z => ?_) (fun z => ?_)
  · walk_at "ww"
    rw [decide_eq_true z, Bool.true_and] at q
    exact f_imm rfl rfl q
  · rw [decide_eq_false z, Bool.false_and] at q
    exact f_imm rfl rfl q
def bAny : List CS := [(.ret (.ands [.call 2 [.var 0], .bi .any [.lc (.nm 1) .val [.var 0] [] (.cmp .gt (.var 1) (.cst (.int 0))) [1]]]))]
def gtD : D → Option D
  | .int x => some (.bl (decide (0 < x)))
  | _ => none
theorem w_anyheap {v : List Int} (hf : pg.tb 3 = some ⟨1, 2, bAny⟩) (h2 : pg.tb 2 = some ⟨1, 2, bCounts 0⟩) (h0 : pg.tb 0 = some ⟨1, 1, bIsInt⟩) (fu : pg.fu = 1000000) (hn : v.length ≤ 1000) (q : Q (.bl (countsB (hv v) && v.any fun x => decide (0 < x))) s) : W (callF pg (k + 3) 3 [hv v] s) Q E := by
  refine W_call hf rfl ?_
  walk_at "w0"
  show WS (exB _ _ [_] _ _) _ _ _
  walk_at "ww"
  refine w_counts (k := k) h2 h0 fu (ask_imm (hv_imm v)) ?_
  walk_at "ww"
  refine ⟨fun z => ?_, fun z => ?_⟩
  · walk_at "ww"
    refine w_srcT (xs := v.map D.int) ?_
    refine w_lcp gtD (by simp; show _ < pg.fu; omega) (fun d hd => ?_) ?_
    · obtain ⟨i, hi, rfl⟩ := List.mem_map.mp hd
      refine w_turn (tg := .nm 1) (e1 := [some (hv v), some (.int i)]) rfl ?_
      walk_at "ww"
      exact ⟨rfl, rfl⟩
    · have e : (v.map D.int).filterMap gtD = (v.map fun x => decide (0 < x)).map D.bl := by
        rw [List.filterMap_map, List.map_map, ← List.filterMap_eq_map]
        rfl
      rw [e]
      refine w_any (at_new _ _) (asBl _) ?_
      rw [z, Bool.true_and] at q
      have e2 : ((v.map fun x => decide (0 < x)).any id) = v.any fun x => decide (0 < x) := by rw [List.any_map]; rfl
      rw [e2]
      exact f_imm rfl rfl q
  · rw [z, Bool.false_and] at q
    rw [z]
    exact f_imm rfl rfl q
end
end PV
set_option Elab.async false
set_option linter.all false
set_option maxRecDepth 100000
set_option maxHeartbeats 2000000
namespace PV
open PySem
variable {b : List MO}
def bIsHeap : List CS := [(.ite (.nt (.call 1 [.var 1, .cst (.int 1), .glb "MAX_KINDS" (3)])) [(.raise 1 [.var 1])] []), (.ret (.ands [.call 3 [.var 0], .cmp .eq (.bi .len [.var 0]) (.var 1)]))]
def bBookBox : List CS := [(.ret (.fld (.var 0) "own_box"))]
def bKinds : List CS := [(.ret (.bi .len [.fld (.var 0) "own_box"]))]
def bIsPair : List CS := [(.ite (.ors [.nt (.call 4 [.var 1, .mc (.var 0) "kinds" [] [] []]), .nt (.call 4 [.var 2, .mc (.var 0) "kinds" [] [] []])]) [(.ret (.cst (.bl false)))] []), (.ret (.call 8 [.call 7 [.var 1, .var 2], .fld (.var 0) "own_box"]))]
structure BKit (pg : Pg) : Prop extends Kit pg where
  t1 : pg.tb 1 = some ⟨3, 3, bRange⟩
  t3 : pg.tb 3 = some ⟨1, 2, bAny⟩
  t4 : pg.tb 4 = some ⟨2, 2, bIsHeap⟩
  t7 : pg.tb 7 = some ⟨2, 4, bAdd⟩
  t8 : pg.tb 8 = some ⟨2, 4, bFits⟩
  t21 : pg.tb 21 = some ⟨1, 1, bBookBox⟩
  t22 : pg.tb 22 = some ⟨1, 1, bKinds⟩
  t23 : pg.tb 23 = some ⟨3, 3, bIsPair⟩
  m21 : pg.mth "Book" "box" = some 21
  m22 : pg.mth "Book" "kinds" = some 22
  m23 : pg.mth "Book" "is_pair" = some 23
  m24 : pg.mth "Book" "fee" = some 24
  a21 : pg.ar 21 = some ⟨["self"], 1, []⟩
  a22 : pg.ar 22 = some ⟨["self"], 1, []⟩
  a23 : pg.ar 23 = some ⟨["self", "one", "other"], 3, []⟩
  a24 : pg.ar 24 = some ⟨["self", "one", "other"], 3, []⟩
  f1 : pg.fok "Book" "own_box" = true
  f2 : pg.fok "Book" "own_fees" = true
  isc : pg.isc "Book" = true
theorem arr1 (x : D) : arr ⟨["self"], 1, []⟩ [x] [] [] = some [x] := rfl
theorem arr3 (x y z : D) : arr ⟨["self", "one", "other"], 3, []⟩ [x, y, z] [] [] = some [x, y, z] := rfl
def bkF (l : List Int) (fq : Nat) : List (Str × D) := [("own_box", hv l), ("own_fees", .ref fq)]
section
variable {pg : Pg} {k : Nat} {s : HS b} {E : XW b} {Q : D → HS b → Prop}
theorem BKit.isheap (K : BKit pg) {v : List Int} {n : Int} (hc : countsB (hv v) = true) (ha : (v.any fun x => decide (0 < x)) = true) (hl : (v.length : Int) = n) (h1 : 1 ≤ n) (h3 : n ≤ 3) (q : Q (.bl true) s) : W (callF pg (k + 4) 4 [hv v, .int n] s) Q E := by
  refine W_call K.t4 rfl ?_
  walk_at "w0"
  show WS (exB _ _ [_, _] _ _) _ _ _
  walk_at "kqq"
  refine w_range (k := k + 1) K.t1 K.t0 ?_
  rw [decide_eq_true h1, decide_eq_true h3, Bool.and_self]
  walk_at "kqq"
  refine w_anyheap (k := k) K.t3 K.t2 K.t0 K.fu (by omega) ?_
  rw [hc, ha, Bool.and_self]
  walk_at "kqq"
  refine w_len (ys := v.map D.int) rfl ?_
  walk_at "kqq"
  have e : (((v.map D.int).length : Int) == n) = true := by
    rw [List.length_map, hl]
    simp
  rw [e]
  exact f_imm rfl rfl q
variable {bk fq : Nat} {l : List Int}
theorem BKit.kinds (K : BKit pg) (hb : s.M[bk]? = some (.ins "Book" (bkF l fq))) (q : Q (.int l.length) s) : W (callF pg (k + 1) 22 [.ref bk] s) Q E := by
  refine W_call K.t22 rfl ?_
  walk_at "w0"
  show WS (exB _ _ [_] _ _) _ _ _
  walk_at "kqq"
  refine k_fl (s := HS.start s.M) hb K.f1 rfl ?_
  walk_at "kqq"
  refine w_len (ys := l.map D.int) rfl ?_
  rw [List.length_map]
  exact f_imm rfl rfl q
theorem BKit.box_ (K : BKit pg) (hb : s.M[bk]? = some (.ins "Book" (bkF l fq))) (q : Q (hv l) s) : W (callF pg (k + 1) 21 [.ref bk] s) Q E := by
  refine W_call K.t21 rfl ?_
  walk_at "w0"
  show WS (exB _ _ [_] _ _) _ _ _
  walk_at "kqq"
  refine k_fl (s := HS.start s.M) hb K.f1 rfl ?_
  exact f_imm rfl (hv_imm l) q
theorem BKit.ispair (K : BKit pg) (hb : s.M[bk]? = some (.ins "Book" (bkF l fq))) {v w : List Int} (hv1 : countsB (hv v) = true) (ha1 : (v.any fun x => decide (0 < x)) = true) (hw1 : countsB (hv w) = true) (hb1 : (w.any fun x => decide (0 < x)) = true) (lv : v.length = l.length) (lw : w.length = l.length) (l1 : 1 ≤ l.length) (l3 : l.length ≤ 3)
    (hf : ((fitsL (sums v w) l).all id) = true) (q : Q (.bl true) s) : W (callF pg (k + 5) 23 [.ref bk, hv v, hv w] s) Q E := by
  have ls : (sums v w).length = l.length := by simp [sums, lv, lw]
  refine W_call K.t23 rfl ?_
  walk_at "w0"
  show WS (exB _ _ [_, _] _ _) _ _ _
  walk_at "kqq"
  refine k_mc (s := HS.start s.M) hb rfl K.m22 K.a22 ?_
  walk_at "kqq"
  refine x_arr (arr1 _) ?_
  walk_at "kqq"
  refine K.kinds (k := k + 3) hb ?_
  walk_at "kqq"
  refine K.isheap (k := k) hv1 ha1 (by rw [lv]) (by omega) (by omega) ?_
  walk_at "kqq"
  refine k_mc (s := HS.start s.M) hb rfl K.m22 K.a22 ?_
  walk_at "kqq"
  refine x_arr (arr1 _) ?_
  walk_at "kqq"
  refine K.kinds (k := k + 3) hb ?_
  walk_at "kqq"
  refine K.isheap (k := k) hw1 hb1 (by rw [lw]) (by omega) (by omega) ?_
  walk_at "kqq"
  refine w_add2 (k := k + 3) K.t7 K.fu (by omega) (by omega) ?_
  walk_at "kqq"
  refine k_fl (s := HS.start s.M) hb K.f1 rfl ?_
  walk_at "kqq"
  refine w_fits (k := k + 3) K.t8 K.fu ls (by omega) ?_
  rw [hf]
  exact f_imm rfl rfl q
end
end PV
set_option Elab.async false
set_option linter.all false
set_option maxRecDepth 100000
set_option maxHeartbeats 2000000
namespace PV
open PySem
variable {b : List MO}
theorem sum_diff : ∀ {v w : List Int}, Bel v w → sums v (diff w v) = w
  | [], [], _ => rfl
  | t :: ts, m :: l, h => by
    simp only [Bel] at h
    have := sum_diff h.2.2
    show (t + (m - t)) :: sums ts (diff l ts) = m :: l
    rw [this]
    congr 1
    omega
  | [], _ :: _, h => by simp [Bel] at h
  | _ :: _, [], h => by simp [Bel] at h
theorem diff_bel : ∀ {v w : List Int}, Bel v w → Bel (diff w v) w
  | [], [], _ => True.intro
  | t :: ts, m :: l, h => by
    simp only [Bel] at h
    have := diff_bel h.2.2
    show 0 ≤ m - t ∧ m - t ≤ m ∧ Bel (diff l ts) l
    exact ⟨by omega, by omega, this⟩
  | [], _ :: _, h => by simp [Bel] at h
  | _ :: _, [], h => by simp [Bel] at h
theorem diff_any : ∀ {v w : List Int}, Bel v w → v ≠ w → (diff w v).any (· != 0) = true
  | [], [], _, n => absurd rfl n
  | t :: ts, m :: l, h, n => by
    simp only [Bel] at h
    show (((m - t) != 0) || (diff l ts).any (· != 0)) = true
    by_cases e : t = m
    · subst e
      have : ts ≠ l := fun z => n (by rw [z])
      rw [diff_any h.2.2 this, Bool.or_true]
    · have : ((m - t) != 0) = true := by
        simp only [bne_iff_ne, ne_eq]
        omega
      rw [this, Bool.true_or]
  | [], _ :: _, h, _ => by simp [Bel] at h
  | _ :: _, [], h, _ => by simp [Bel] at h
theorem any_pos {v : List Int} (h0 : ∀ x ∈ v, 0 ≤ x) (h : v.any (· != 0) = true) : (v.any fun x => decide (0 < x)) = true := by
  obtain ⟨x, hx, e⟩ := List.any_eq_true.mp h
  refine List.any_eq_true.mpr ⟨x, hx, ?_⟩
  have := h0 x hx
  have e' : x ≠ 0 := by simpa using e
  exact decide_eq_true (by omega)
theorem hv_counts {v : List Int} (h0 : ∀ x ∈ v, 0 ≤ x) (h1 : 1 ≤ v.length) (h3 : v.length ≤ 3) : countsB (hv v) = true := by
  show (decide (1 ≤ (v.map D.int).length) && decide ((v.map D.int).length ≤ 3) && (v.map D.int).all nat0) = true
  rw [List.length_map, decide_eq_true h1, decide_eq_true h3, Bool.and_self, Bool.true_and, List.all_map, List.all_eq_true]
  intro x hx
  exact decide_eq_true (h0 x hx)
theorem fits_bel : ∀ {v l : List Int}, Bel v l → ((fitsL v l).all id) = true
  | [], [], _ => rfl
  | t :: ts, m :: l, h => by
    simp only [Bel] at h
    show (decide (t ≤ m) && (fitsL ts l).all id) = true
    rw [decide_eq_true h.2.1, fits_bel h.2.2, Bool.and_self]
  | [], _ :: _, h => by simp [Bel] at h
  | _ :: _, [], h => by simp [Bel] at h
theorem any_len {v : List Int} (h : v.any (· != 0) = true) : 1 ≤ v.length := by
  cases v with
  | nil => cases h
  | cons _ _ => simp
theorem prts_iff {v w : List Int} (h0 : ∀ m ∈ w, 0 ≤ m) (h1 : w.any (· != 0) = true) : v ∈ prts w ↔ (Bel v w ∧ v.any (· != 0) = true) ∧ v ≠ w := by
  rw [← prts_filter h0 h1, List.mem_filter, mem_hps]
  simp
structure PairIn (l v w : List Int) : Prop where
  bv : Bel v l
  bw : Bel w l
  av : v.any (· != 0) = true
  aw : w.any (· != 0) = true
  bs : Bel (sums v w) l
theorem pair_in {l : List Int} {p : List Int × List Int} (hp : p ∈ prs l) (h0 : ∀ m ∈ l, 0 ≤ m) : PairIn l p.1 p.2 := by
  obtain ⟨w, hw, h1, h2⟩ := mem_prs hp
  obtain ⟨bw, aw⟩ := mem_hps.mp hw
  have := (prts_iff bw.pos aw).mp h1
  rw [h2]
  exact ⟨this.1.1.trans bw, (diff_bel this.1.1).trans bw, this.1.2, diff_any this.1.1 this.2, by rw [sum_diff this.1.1]; exact bw⟩
theorem bel_sums : ∀ {v w : List Int}, v.length = w.length → (∀ x ∈ v, 0 ≤ x) → (∀ x ∈ w, 0 ≤ x) → Bel v (sums v w) ∧ diff (sums v w) v = w
  | [], [], _, _, _ => ⟨True.intro, rfl⟩
  | t :: ts, m :: l, h, h1, h2 => by
    obtain ⟨i1, i2⟩ := bel_sums (v := ts) (w := l) (by simpa using h) (fun x hx => h1 x (List.mem_cons_of_mem _ hx)) (fun x hx => h2 x (List.mem_cons_of_mem _ hx))
    have a1 := h1 t List.mem_cons_self
    have a2 := h2 m List.mem_cons_self
    refine ⟨⟨a1, by show t ≤ t + m; omega, i1⟩, ?_⟩
    show (t + m - t) :: diff (sums ts l) ts = m :: l
    rw [i2]
    congr 1
    omega
  | [], _ :: _, h, _, _ => by cases h
  | _ :: _, [], h, _, _ => by cases h
theorem PairIn.mem {l v w : List Int} (h : PairIn l v w) : (v, w) ∈ prs l := by
  obtain ⟨h1, h2⟩ := bel_sums (v := v) (w := w) (by rw [h.bv.len, h.bw.len]) h.bv.pos h.bw.pos
  have ha : (sums v w).any (· != 0) = true := by
    obtain ⟨x, hx, e⟩ := List.any_eq_true.mp h.av
    obtain ⟨i, hi⟩ := List.mem_iff_getElem?.mp hx
    have hl : i < w.length := by
      have := (List.getElem?_eq_some_iff.mp hi).1
      rw [h.bw.len, ← h.bv.len]
      exact this
    refine List.any_eq_true.mpr ⟨x + w[i], List.mem_iff_getElem?.mpr ⟨i, ?_⟩, ?_⟩
    · simp [sums, List.getElem?_zipWith, hi, hl]
    · have p1 := h.bv.pos x hx
      have p2 := h.bw.pos w[i] (List.getElem_mem hl)
      have e' : x ≠ 0 := by simpa using e
      simp only [bne_iff_ne, ne_eq]
      omega
  have hne : v ≠ sums v w := fun z => by
    have := h.aw
    rw [← h2, ← z] at this
    have d0 : ∀ u : List Int, (diff u u).any (· != 0) = false := fun u => by
      induction u with
      | nil => rfl
      | cons x u ih =>
        show (((x - x) != 0) || (diff u u).any (· != 0)) = false
        rw [ih]
        simp
    rw [d0] at this
    cases this
  exact List.mem_flatMap.mpr ⟨sums v w, mem_hps.mpr ⟨h.bs, ha⟩, List.mem_map.mpr ⟨v, (prts_iff h.bs.pos ha).mpr ⟨⟨h1, h.av⟩, hne⟩, by rw [h2]⟩⟩
def bFee (r : CS) : List CS := [(.ite (.nt (.mc (.var 0) "is_pair" [.var 1, .var 2] [] [])) [r] []), (.ret (.idx (.fld (.var 0) "own_fees") (.tup [.var 1, .var 2])))]
structure BkAt (M : List MO) (bk : Nat) (l : List Int) (φ : List Int × List Int → Int) : Prop where
  bx : Bx l
  ex : ∃ fq ep, M[bk]? = some (.ins "Book" (bkF l fq)) ∧ M[fq]? = some (.dct ep (dOf pv (fun p => .int (φ p)) (prs l)))
section
variable {pg : Pg} {k : Nat} {s : HS b} {E : XW b} {Q : D → HS b → Prop} {bk : Nat} {l v w : List Int} {φ : List Int × List Int → Int} {r : CS}
theorem BKit.fee (K : BKit pg) (t24 : pg.tb 24 = some ⟨3, 3, bFee r⟩) (hb : BkAt s.M bk l φ) (hp : PairIn l v w) (q : Q (.int (φ (v, w))) s) : W (callF pg (k + 6) 24 [.ref bk, hv v, hv w] s) Q E := by
  obtain ⟨hx, fq, ep, h1, h2⟩ := hb
  have l1 := any_len hx.any
  have l3 := hx.ln
  have lv := hp.bv.len
  have lw := hp.bw.len
  refine W_call t24 rfl ?_
  walk_at "w0"
  show WS (exB _ _ [_, _] _ _) _ _ _
  walk_at "kqq"
  refine k_mc (s := HS.start s.M) h1 rfl K.m23 K.a23 ?_
  walk_at "kqq"
  refine x_arr (arr3 _ _ _) ?_
  walk_at "kqq"
  refine K.ispair (k := k) (s := HS.start s.M) h1 (hv_counts hp.bv.pos (by omega) (by omega)) (any_pos hp.bv.pos hp.av) (hv_counts hp.bw.pos (by omega) (by omega)) (any_pos hp.bw.pos hp.aw) lv lw l1 l3 (fits_bel hp.bs) ?_
  walk_at "kqq"
  refine k_fl (s := HS.start s.M) h1 K.f2 rfl ?_
  walk_at "kqq"
  refine w_ixd (s := HS.start s.M) h2 (kOk_pv (v, w)) (getK_in kinj_pv hp.mem) ?_
  exact f_imm rfl rfl q
end
end PV
set_option Elab.async false
set_option linter.all false
set_option maxRecDepth 100000
set_option maxHeartbeats 2000000
namespace PV
open PySem
variable {b : List MO}
theorem nodup_prts (w : List Int) : (prts w).Nodup := (List.dropLast_sublist _).nodup (nodup_hps w)
theorem nodup_prs {l : List Int} (h0 : ∀ m ∈ l, 0 ≤ m) : (prs l).Nodup := by
  unfold prs List.Nodup
  rw [List.pairwise_flatMap]
  refine ⟨fun w _ => ?_, ?_⟩
  · refine List.Pairwise.map _ (fun a c h z => h ?_) (nodup_prts w)
    exact (Prod.mk.inj z).1
  · refine List.Pairwise.imp_of_mem (fun {a c} ha hc hne => ?_) (nodup_hps l)
    intro p h1 p' h2 hpp
    subst hpp
    obtain ⟨v, hv1, rfl⟩ := List.mem_map.mp h1
    obtain ⟨u, hu1, e⟩ := List.mem_map.mp h2
    obtain ⟨e1, e2⟩ := Prod.mk.inj e
    subst e1
    apply hne
    have b1 := mem_prts hv1
    have b2 := mem_prts hu1
    rw [← sum_diff b1, ← sum_diff b2, e2]
def bInit : List CS := [(.ite (.nt (.call 16 [.var 1])) [(.raise 3 [.cst (.str "box"), .cst .non])] []), (.ite (.nt (.bi (.isi .dict) [.var 2])) [(.raise 3 [.cst (.str "fees"), .cst .non])] []), (.set (.nm 3) (.call 19 [.var 1])), (.for_ (.nm 4) .val [.var 3] [(.ite (.nt (.call 0 [.mt .get (.var 2) [.var 4]])) [(.raise 3 [.cst (.str "fee"), .var 4])] [])]), (.ite (.cmp .ne (.bi .len [.var 2]) (.bi .len [.var 3])) [(.raise 3 [.cst (.str "more"), .cst .non])] []), (.fset (.var 0) "own_box" (.var 1)), (.fset (.var 0) "own_fees" (.dc (.nm 4) .val [.var 3] [] (.var 4) (.idx (.var 2) (.var 4)) [4]))]
section
variable {pg : Pg} {k : Nat} {s : HS b} {E : XW b} {Q : D → HS b → Prop} {bk fq ep i : Nat} {l : List Int} {φ : List Int × List Int → Int} {L : OL}
abbrev feesD (l : List Int) (φ : List Int × List Int → Int) : KV := dOf pv (fun p => .int (φ p)) (prs l)
theorem BKit.init (K : BKit pg) (t20 : pg.tb 20 = some ⟨3, 5, bInit⟩) (hx : Bx l) (H : Has s ((bk, .ins "Book" []) :: L)) (hf : L[i]? = some (fq, .dct ep (feesD l φ))) (q : ∀ S fq' ep', Has S ((fq', .dct ep' (feesD l φ)) :: (bk, .ins "Book" (bkF l fq')) :: L) → Q .non S) : W (callF pg (k + 6) 20 [.ref bk, hv l, .ref fq] s) Q E := by
  have htot : (prs l).length ≤ 10000 := by
    have h1 : (prs l).length ≤ (hps l).length * 64 := flat_len fun w hw => by
      rw [List.length_map]
      exact Nat.le_trans (prts_len w) (Nat.le_trans (mem_hps.mp hw).1.prod hx.sz)
    have := hps_len l
    have h3 := hx.sz
    have h2 : (hps l).length * 64 ≤ 64 * 64 := Nat.mul_le_mul (by omega) (Nat.le_refl _)
    omega
  have hbk : bk < s.M.length := H.lt (p := (bk, _)) List.mem_cons_self
  refine W_call t20 rfl ?_
  walk_at "w0"
  unfold bInit
  walk_at "kqq"
  refine K.toKit.box (k := k + 2) (ask_imm (hv_imm l)) ?_
  rw [hx.ok]
  walk_at "kqq"
  have H0 := H.start
  have g0 : (HS.start s.M).M[fq]? = some (.dct ep (feesD l φ)) := H0.get (i := i + 1) hf
  refine w_isi (k := true) (by simp only [isTy, g0]) ?_
  walk_at "kqq"
  refine K.toKit.pairs (k := k) hx ?_
  refine k_alx H0 fun pq S1 hq1 hS1 lo1 H1 => ?_
  walk_at "kqq"
  have g1 : S1.M[fq]? = some (.dct ep (feesD l φ)) := H1.get (i := i + 2) hf
  have gp : S1.M[pq]? = some (.lst true ((prs l).map pv)) := H1.get (i := 0) rfl
  refine z_live (xs := (prs l).map pv) (fun _ e1 s1 => s1 = S1 ∧ ∃ y, e1 = [some (.ref bk), some (hv l), some (.ref fq), some (.ref pq), y]) ⟨rfl, _, rfl⟩ (by rw [List.length_map]; show _ < pg.fu; rw [K.fu]; omega) (fun _ e1 s1 h => by rw [h.1]; exact ⟨true, gp⟩) (fun j d e1 s1 hd h => ?_) (fun e1 s1 h => ?_)
  · obtain ⟨rfl, y, rfl⟩ := h
    rw [List.getElem?_map] at hd
    cases hp : (prs l)[j]? with
    | none => rw [hp] at hd; cases hd
    | some p =>
      rw [hp] at hd
      cases hd
      have hm := List.mem_of_getElem? hp
      dsimp only [Tg.bind]
      walk_at "kqq"
      refine w_get1 g1 (kOk_pv p) ?_
      rw [getK_in kinj_pv hm]
      walk_at "kqq"
      refine w_isint (k := k + 4) K.t0 (tyd_imm rfl) ?_
      walk_at "kqq"
      refine ⟨fun _ => ?_, fun z => nomatch z⟩
      walk_at "kqq"
      exact ⟨rfl, _, rfl⟩
  obtain ⟨rfl, y, rfl⟩ := h
  walk_at "kqq"
  refine w_len (ys := (prs l).map pv) (by simp only [items, gp]) ?_
  rw [show (feesD l φ).length = ((prs l).map pv).length by simp [dOf]]
  walk_at "kqq"
  refine c_b (fun _ => ?_) (fun z => absurd rfl z)
  walk_at "kqq"
  refine k_fs (H1.get (i := 1) rfl) K.f1 (by simp) (k_sex H1 (i := 1) rfl fun S2 hS2 lo2 H2 => ?_)
  walk_at "kqq"
  have g2 : S2.M[fq]? = some (.dct ep (feesD l φ)) := H2.get (i := i + 2) hf
  refine w_dcp (fun d => (d, (getK (feesD l φ) d).getD .non)) (H2.get (i := 0) rfl) (by rw [List.length_map]; show _ < pg.fu; rw [K.fu]; omega) (by rw [List.length_map]; omega) (fun d hd => ?_) (fun d hd => ?_) ?_
  · obtain ⟨p, hp, rfl⟩ := List.mem_map.mp hd
    exact kOk_pv p
  · obtain ⟨p, hp, rfl⟩ := List.mem_map.mp hd
    refine w_turnD rfl ?_
    walk_at "kqq"
    refine w_ixd g2 (kOk_pv p) (getK_in kinj_pv hp) ?_
    rw [getK_in kinj_pv hp]
    exact ⟨rfl, rfl⟩
  · have e : ((prs l).map pv).map (fun d => (d, (getK (feesD l φ) d).getD .non)) = feesD l φ := by
      rw [List.map_map]
      exact List.map_congr_left fun p hp => by
        show (pv p, (getK (feesD l φ) (pv p)).getD .non) = _
        rw [getK_in kinj_pv hp]
        rfl
    obtain ⟨m, em⟩ := foldK_dOf (v := fun p => D.int (φ p)) kinj_pv (prs l) [] 0 (by simpa using nodup_prs hx.pos)
    have em' : foldK (0, []) (feesD l φ) = (m, feesD l φ) := em
    rw [e, em']
    refine k_alx H2 fun nq S3 hq3 hS3 lo3 H3 => ?_
    walk_at "kqq"
    refine k_fs (H3.get (i := 2) rfl) K.f2 (by simp [putFd]) (k_sex H3 (i := 2) rfl fun S4 hS4 lo4 H4 => ?_)
    walk_at "kqq"
    have hlo : S4.lo ≠ s.M.length := by
      rw [lo4]
      omega
    exact f_keep hlo (q _ nq m (H4.sub (by walk_at "ssl")).back)
end
end PV
set_option Elab.async false
set_option linter.all false
set_option maxRecDepth 100000
set_option maxHeartbeats 2000000
namespace PV
open PySem
variable {b : List MO}
section
variable {α : Type} {P : Ev} {X : Cur} {e : Env} {s : HS b} {N : Env → HS b → Prop} {T : D → HS b → Prop} {EE : Nat → List (Str × D) → Env → HS b → Prop}
theorem z_findM {p : Nat} {w : Bool} {f : α → D} {ks : List α} {turn : D → Env → HS b → Option (SR b)} {fu : Nat} (g : α → Option D) (Inv : Env → HS b → Prop) (IT : HS b → Prop) (h0 : Inv e s) (hf : ks.length < fu) (hl : ∀ e1 s1, Inv e1 s1 → s1.M[p]? = some (.lst w (ks.map f)))
    (hs : ∀ a ∈ ks, ∀ e1 s1, Inv e1 s1 → WS (turn (f a) e1 s1) (fun e2 s2 => Inv e2 s2 ∧ g a = none) (fun r s2 => g a = some r ∧ IT s2) EE) (hN : ks.findSome? g = none → ∀ e2 s2, Inv e2 s2 → N e2 s2) (hT : ∀ r s2, ks.findSome? g = some r → IT s2 → T r s2) : WS (forL (Src.live p).at turn fu 0 e s) N T EE := by
  refine forL_W ks.length (fun i e s => i ≤ ks.length ∧ Inv e s ∧ (ks.take i).findSome? g = none) (fun i e1 s1 ⟨hi, h, hn⟩ => ⟨hi, ?_⟩) fu 0 e s hf ⟨Nat.zero_le _, h0, rfl⟩
  have hat : ∀ i, (Src.live p).at i s1 = some (ks.map f)[i]? := fun i => by simp [Src.at, hl e1 s1 h]
  by_cases hlt : i < ks.length
  · have e1' : ks[i]? = some ks[i] := by simp [hlt]
    have et : ks.take (i + 1) = ks.take i ++ [ks[i]] := by rw [List.take_add_one, e1']; rfl
    refine .inr ⟨hlt, f ks[i], by rw [hat, List.getElem?_map, e1']; rfl, (hs _ (List.getElem_mem hlt) e1 s1 h).mono (fun e2 s2 ⟨z1, z2⟩ => ⟨hlt, z1, ?_⟩) (fun r s2 ⟨z1, z2⟩ => hT r s2 ?_ z2) fun _ _ _ _ z => z⟩
    · rw [et, List.findSome?_append, hn]
      simp [z2]
    · have : ks = ks.take i ++ ks[i] :: ks.drop (i + 1) := by
        rw [← List.drop_eq_getElem_cons hlt, List.take_append_drop]
      have e3 : ks.findSome? g = (ks.take i ++ ks[i] :: ks.drop (i + 1)).findSome? g := congrArg _ this
      rw [e3, List.findSome?_append, hn, Option.none_or, List.findSome?_cons, z1]
  · have : i = ks.length := by omega
    subst this
    rw [List.take_length] at hn
    exact .inl ⟨by rw [hat]; simp, hN hn e1 s1 h⟩
end
end PV
set_option Elab.async false
set_option linter.all false
set_option maxRecDepth 100000
set_option maxHeartbeats 2000000
namespace PV
open PySem
variable {b : List MO}
structure Gw (s s1 : HS b) : Prop where
  pre : s.M <+: s1.M
  lo : s1.lo = s.lo
section
variable {s s1 s2 : HS b} {q : Nat} {o : MO}
theorem Gw.refl (s : HS b) : Gw s s := ⟨List.prefix_rfl, rfl⟩
theorem Gw.trans (h : Gw s s1) (k : Gw s1 s2) : Gw s s2 := ⟨h.pre.trans k.pre, k.lo.trans h.lo⟩
theorem Gw.at_ (h : Gw s s1) (hq : s.M[q]? = some o) : s1.M[q]? = some o := by
  obtain ⟨t, ht⟩ := h.pre
  rw [← ht, List.getElem?_append_left (at_lt hq)]
  exact hq
theorem Gw.len (h : Gw s s1) : s.M.length ≤ s1.M.length := h.pre.length_le
theorem Gw.alloc (h : Gw s s1) (o : MO) : Gw s (s1.alloc o) := ⟨h.pre.trans (List.prefix_append _ _), h.lo⟩
theorem k_ext {K : Nat → HS b → Prop} (H : Gw s s1) (h : ∀ q S, s1.M.length ≤ q → S.M[q]? = some o → Gw s1 S → Gw s S → K q S) : AL s1 o K := h _ _ (Nat.le_refl _) (at_new _ _) ((Gw.refl s1).alloc o) (H.alloc o)
theorem f_ext {s : HS b} {s1 : HS s.M} {d : D} {Q : D → HS b → Prop} {E : XW b} (h : Gw (HS.start s.M) s1) (hd : d.imm = true) (q : Q d s) : W (fin s d s1) Q E := f_imm h.lo hd q
theorem f_extL {s : HS b} {s1 : HS s.M} {p : Nat} {ys : List D} {Q : D → HS b → Prop} {E : XW b} (h : Gw (HS.start s.M) s1) (hp : s.M.length ≤ p) (hm : s1.M[p]? = some (.lst true ys)) (hi : D.immL ys = true) (q : AL s (.lst true ys) fun q S => Q (.ref q) S) : W (fin s (.ref p) s1) Q E := f_lst h.lo hp hm hi q
end
theorem BkAt.ext {s s1 : HS b} {bk : Nat} {l : List Int} {φ : List Int × List Int → Int} (h : BkAt s.M bk l φ) (e : Gw s s1) : BkAt s1.M bk l φ := by
  obtain ⟨hx, fq, ep, h1, h2⟩ := h
  exact ⟨hx, fq, ep, e.at_ h1, e.at_ h2⟩
def klt (v w : List Int) : Bool := PySem.W.dataLt (keyP v) (keyP w)
theorem w_klt {s : HS b} {v w : List Int} {Q : D → HS b → Prop} {E : XW b} (q : Q (.bl (klt v w)) s) : W (cmp .lt (keyD v) (keyD w) s) Q E := by
  have e : cmp .lt (keyD v) (keyD w) s = ret (.bl (klt v w)) s := by
    have d1 : ∀ v, deep s.M (keyD v) = some (keyP v) := fun v => by
      have := key_deep s.M [v]
      simp only [List.map_cons, List.map_nil, deepWL] at this
      show deepW (deepR s.M 8) (keyD v) = _
      cases h : deepW (deepR s.M 8) (keyD v) with
      | none => rw [h] at this; cases this
      | some a =>
        rw [h] at this
        simp only [Option.some.injEq, List.cons.injEq, and_true] at this
        rw [this]
    have e1 : ltD false s.M (keyD v) (keyD w) = some (klt v w) := by
      simp only [ltD, d1, key_alike, key_depth, decide_true, Bool.and_true, Bool.true_and]
      rfl
    show (match ltD false s.M (keyD v) (keyD w) with | some b => ret (D.bl b) s | none => none) = _
    rw [e1]
  exact w_is e q
abbrev Fe := List Int × List Int → Int
def asymG (φ : Fe) (w v : List Int) : Option D := if klt v (diff w v) && !(φ (v, diff w v) == φ (diff w v, v)) then some (.tup [.str "symmetry", hv v, hv (diff w v)]) else none
def asymD (φ : Fe) (w : List Int) : Option D := (prts w).findSome? (asymG φ w)
def nonG (φ : Fe) (w v u : List Int) : Option D := if !(φ (v, u) + φ (sums v u, diff (diff w v) u) == φ (u, diff (diff w v) u) + φ (v, diff w v)) then some (.tup [.str "associativity", hv v, hv u, hv (diff (diff w v) u)]) else none
def nonD (φ : Fe) (w : List Int) : Option D := (prts w).findSome? fun v => (prts (diff w v)).findSome? (nonG φ w v)
def vioW (φ : Fe) (w : List Int) : Option D := (asymD φ w).or (nonD φ w)
def vioD (φ : Fe) (hs : List (List Int)) : Option D := hs.findSome? (vioW φ)
theorem findSome_imm {α : Type} {g : α → Option D} {r : D} (h : ∀ a r, g a = some r → r.imm = true) : ∀ {xs : List α}, xs.findSome? g = some r → r.imm = true := fun {xs} e => by
  obtain ⟨_, a, _, _, e1, _⟩ := List.findSome?_eq_some_iff.mp e
  exact h a r e1
theorem asym_imm {φ : Fe} {w : List Int} {r : D} (h : asymD φ w = some r) : r.imm = true := findSome_imm (fun v r e => by
  unfold asymG at e
  split at e
  · cases e; simp [D.imm, D.immL, hv_imm]
  · cases e) h
theorem non_imm {φ : Fe} {w : List Int} {r : D} (h : nonD φ w = some r) : r.imm = true := findSome_imm (fun v r e => findSome_imm (fun u r e => by
  unfold nonG at e
  split at e
  · cases e; simp [D.imm, D.immL, hv_imm]
  · cases e) e) h
theorem vio_imm {φ : Fe} {hs : List (List Int)} {r : D} (h : vioD φ hs = some r) : r.imm = true := findSome_imm (fun v r e => by
  unfold vioW at e
  cases h : asymD φ v with
  | none => rw [h, Option.none_or] at e; exact non_imm e
  | some x => rw [h, Option.some_or] at e; cases e; exact asym_imm h) h
def bAsym : List CS := [(.for_ (.nm 2) .val [.call 15 [.var 1]] [(.set (.nm 3) (.call 12 [.var 1, .var 2])), (.ite (.ands [.cmp .lt (.call 11 [.var 2]) (.call 11 [.var 3]), .cmp .ne (.mc (.var 0) "fee" [.var 2, .var 3] [] []) (.mc (.var 0) "fee" [.var 3, .var 2] [] [])]) [(.ret (.tup [.cst (.str "symmetry"), .var 2, .var 3]))] [])]), (.ret (.cst .non))]
def bNon : List CS := [(.for_ (.nm 2) .val [.call 15 [.var 1]] [(.set (.nm 3) (.call 12 [.var 1, .var 2])), (.for_ (.nm 4) .val [.call 15 [.var 3]] [(.set (.nm 5) (.call 12 [.var 3, .var 4])), (.set (.nm 6) (.bin .add (.mc (.var 0) "fee" [.var 2, .var 4] [] []) (.mc (.var 0) "fee" [.call 7 [.var 2, .var 4], .var 5] [] []))), (.ite (.cmp .ne (.var 6) (.bin .add (.mc (.var 0) "fee" [.var 4, .var 5] [] []) (.mc (.var 0) "fee" [.var 2, .var 3] [] []))) [(.ret (.tup [.cst (.str "associativity"), .var 2, .var 4, .var 5]))] [])])]), (.ret (.cst .non))]
def bAmong : List CS := [(.for_ (.nm 2) .val [.var 1] [(.set (.nm 3) (.call 43 [.var 0, .var 2])), (.ite (.cmp .is (.var 3) (.cst .non)) [(.set (.nm 3) (.call 44 [.var 0, .var 2]))] []), (.ite (.cmp .isn (.var 3) (.cst .non)) [(.ret (.var 3))] [])]), (.ret (.cst .non))]
def bFirst : List CS := [(.exp (.call 32 [.var 0])), (.ret (.call 45 [.var 0, .call 18 [.mc (.var 0) "box" [] [] []]]))]
def bCkBook : List CS := [(.ite (.nt (.isC (.var 0) "Book")) [(.raise 3 [.cst (.str "book"), .cst .non])] [])]
structure VKit (pg : Pg) : Prop extends BKit pg where
  t24 : ∃ r, pg.tb 24 = some ⟨3, 3, bFee r⟩
  t32 : pg.tb 32 = some ⟨1, 1, bCkBook⟩
  t43 : pg.tb 43 = some ⟨2, 4, bAsym⟩
  t44 : pg.tb 44 = some ⟨2, 7, bNon⟩
  t45 : pg.tb 45 = some ⟨2, 4, bAmong⟩
  t46 : pg.tb 46 = some ⟨1, 1, bFirst⟩
theorem prts_pair {l w v : List Int} (hw : w ∈ hps l) (hv' : v ∈ prts w) : PairIn l v (diff w v) ∧ PairIn l (diff w v) v := by
  obtain ⟨bw, aw⟩ := mem_hps.mp hw
  have h1 := (prts_iff bw.pos aw).mp hv'
  have b1 := h1.1.1
  refine ⟨⟨b1.trans bw, (diff_bel b1).trans bw, h1.1.2, diff_any b1 h1.2, by rw [sum_diff b1]; exact bw⟩, ⟨(diff_bel b1).trans bw, b1.trans bw, diff_any b1 h1.2, h1.1.2, ?_⟩⟩
  have : sums (diff w v) v = w := by
    have := sum_diff b1
    unfold sums at this ⊢
    rw [List.zipWith_comm]
    simpa [Int.add_comm] using this
  rw [this]
  exact bw
theorem sums_le : ∀ {v u t : List Int}, Bel u (diff t v) → Bel v t → Bel (sums v u) t ∧ diff t (sums v u) = diff (diff t v) u
  | [], [], [], _, _ => ⟨True.intro, rfl⟩
  | x :: v, y :: u, m :: t, h1, h2 => by
    have h1' : 0 ≤ y ∧ y ≤ m - x ∧ Bel u (diff t v) := h1
    simp only [Bel] at h2
    obtain ⟨i1, i2⟩ := sums_le h1'.2.2 h2.2.2
    refine ⟨⟨by show 0 ≤ x + y; omega, by show x + y ≤ m; omega, i1⟩, ?_⟩
    show (m - (x + y)) :: diff t (sums v u) = (m - x - y) :: diff (diff t v) u
    rw [i2]
    congr 1
    omega
  | [], _ :: _, [], h, _ => by simp [diff, Bel] at h
  | [], _, _ :: _, _, h => by simp [Bel] at h
  | _ :: _, _, [], _, h => by simp [Bel] at h
  | _ :: _, [], _ :: _, h, _ => by simp [diff, Bel] at h
theorem sums_any {v u : List Int} (hl : v.length = u.length) (h0 : ∀ x ∈ v, 0 ≤ x) (h1 : ∀ x ∈ u, 0 ≤ x) (ha : v.any (· != 0) = true) : (sums v u).any (· != 0) = true := by
  obtain ⟨x, hx, e⟩ := List.any_eq_true.mp ha
  obtain ⟨i, hi⟩ := List.mem_iff_getElem?.mp hx
  have hl' : i < u.length := by
    have := (List.getElem?_eq_some_iff.mp hi).1
    omega
  refine List.any_eq_true.mpr ⟨x + u[i], List.mem_iff_getElem?.mpr ⟨i, ?_⟩, ?_⟩
  · simp [sums, List.getElem?_zipWith, hi, hl']
  · have p1 := h0 x hx
    have p2 := h1 u[i] (List.getElem_mem hl')
    have e' : x ≠ 0 := by simpa using e
    simp only [bne_iff_ne, ne_eq]
    omega
theorem tri_one {l w v u : List Int} (hw : w ∈ hps l) (hv' : v ∈ prts w) (hu : u ∈ prts (diff w v)) : PairIn l v u := by
  have pp := prts_pair hw hv'
  have hwd : diff w v ∈ hps l := mem_hps.mpr ⟨pp.1.bw, pp.1.aw⟩
  have p2 := prts_pair hwd hu
  obtain ⟨bw, aw⟩ := mem_hps.mp hw
  exact ⟨pp.1.bv, p2.1.bv, pp.1.av, p2.1.av, (sums_le (mem_prts hu) (mem_prts hv')).1.trans bw⟩
theorem tri_two {l w v u : List Int} (hw : w ∈ hps l) (hv' : v ∈ prts w) (hu : u ∈ prts (diff w v)) : PairIn l (sums v u) (diff (diff w v) u) := by
  have pp := prts_pair hw hv'
  have hwd : diff w v ∈ hps l := mem_hps.mpr ⟨pp.1.bw, pp.1.aw⟩
  have p2 := prts_pair hwd hu
  have p1 := tri_one hw hv' hu
  obtain ⟨bw, aw⟩ := mem_hps.mp hw
  have hs := sums_le (mem_prts hu) (mem_prts hv')
  refine ⟨p1.bs, p2.1.bw, sums_any (by rw [p1.bv.len, p1.bw.len]) p1.bv.pos p1.bw.pos p1.av, p2.1.aw, ?_⟩
  rw [← hs.2, sum_diff hs.1]
  exact bw
section
variable {pg : Pg} {k : Nat} {s : HS b} {E : XW b} {Q : D → HS b → Prop} {bk : Nat} {l v w : List Int} {φ : Fe}
theorem VKit.mcfee {X : Cur} {e : Env} {i j1 j2 : Nat} (K : VKit pg) (hb : BkAt s.M bk l φ) (hp : PairIn l v w) (h0 : e[i]? = some (some (.ref bk))) (h1 : e[j1]? = some (some (hv v))) (h2 : e[j2]? = some (some (hv w))) (q : Q (.int (φ (v, w))) s) : W (evE (pg.ev (k + 6)) X (.mc (.var i) "fee" [.var j1, .var j2] [] []) e s) Q E := by
  obtain ⟨r, t24⟩ := K.t24
  obtain ⟨fq, ep, g1, g2⟩ := hb.ex
  refine w_mc (w_var h0 ?_)
  refine k_mc g1 rfl K.m24 K.a24 ?_
  refine w_cons (w_var h1 ?_)
  refine w_cons (w_var h2 ?_)
  refine w_nil (w_nil ?_)
  refine x_arr (arr3 _ _ _) ?_
  exact K.toBKit.fee (k := k) t24 hb hp q
theorem VKit.check (K : VKit pg) (hb : BkAt s.M bk l φ) (q : Q .non s) : W (callF pg (k + 1) 32 [.ref bk] s) Q E := by
  obtain ⟨fq, ep, g1, g2⟩ := hb.ex
  refine W_call K.t32 rfl ?_
  walk_at "w0"
  unfold bCkBook
  walk_at "kqq"
  refine w_isC K.isc ?_
  walk_at "kqq"
  refine k_ic (s := HS.start s.M) g1 K.isc ?_
  walk_at "kqq"
  refine c_d (fun _ => ?_) (fun z => absurd rfl z)
  walk_at "kqq"
  exact f_imm rfl rfl q
theorem VKit.asym (K : VKit pg) (hb : BkAt s.M bk l φ) (hw : w ∈ hps l) (q : Q ((asymD φ w).getD .non) s) : W (callF pg (k + 7) 43 [.ref bk, hv w] s) Q E := by
  obtain ⟨bw, aw⟩ := mem_hps.mp hw
  have hx := hb.bx
  have lw : Lim w := bw.lim (by have := hx.sz; omega) (by have := hx.ln; omega)
  have hn : w.length ≤ 1000 := by have := bw.len; have := hx.ln; omega
  refine W_call K.t43 rfl ?_
  walk_at "w0"
  unfold bAsym
  walk_at "kqq"
  refine K.toKit.parts (k := k + 3) lw ?_
  refine k_ext (Gw.refl _) fun p S hp hm _ x1 => ?_
  walk_at "kqq"
  refine z_findM (p := p) (w := true) (f := hv) (ks := prts w) (asymG φ w) (fun e1 s1 => s1 = S ∧ ∃ y3 y4, e1 = [some (.ref bk), some (hv w), y3, y4]) (fun s1 => s1 = S) ⟨rfl, _, _, rfl⟩ (by show _ < pg.fu; rw [K.fu]; have := prts_len w; have := bw.prod; have := hx.sz; omega) (fun e1 s1 h => by rw [h.1]; exact hm) (fun v hv' e1 s1 h => ?_) (fun z e1 s1 h => ?_) (fun r s1 z h => ?_)
  · obtain ⟨rfl, y3, y4, rfl⟩ := h
    have pp := prts_pair hw hv'
    have hb' : BkAt s1.M bk l φ := BkAt.ext (s := HS.start s.M) hb x1
    have b1 := mem_prts hv'
    dsimp only [Tg.bind]
    walk_at "kqq"
    refine w_sub2 (k := k + 5) K.t12 K.fu (by rw [b1.len]) hn ?_
    walk_at "kqq"
    refine w_key (k := k + 5) K.t11 ?_
    walk_at "kqq"
    refine w_key (k := k + 5) K.t11 ?_
    refine w_klt ?_
    walk_at "kqq"
    obtain ⟨r, t24⟩ := K.t24
    obtain ⟨fq, ep, g1, g2⟩ := hb'.ex
    refine ⟨fun z => ?_, fun z => ?_⟩
    · walk_at "kqq"
      refine k_mc g1 rfl K.m24 K.a24 ?_
      walk_at "kqq"
      refine x_arr (arr3 _ _ _) ?_
      walk_at "kqq"
      refine K.toBKit.fee (k := k) t24 hb' pp.1 ?_
      walk_at "kqq"
      refine k_mc g1 rfl K.m24 K.a24 ?_
      walk_at "kqq"
      refine x_arr (arr3 _ _ _) ?_
      walk_at "kqq"
      refine K.toBKit.fee (k := k) t24 hb' pp.2 ?_
      walk_at "kqq"
      refine c_b (fun e => ?_) (fun e => ?_)
      · walk_at "kqq"
        exact ⟨⟨rfl, _, _, rfl⟩, by simp [asymG, z, e]⟩
      · walk_at "kqq"
        exact ⟨by simp [asymG, z, e], rfl⟩
    · rw [z]
      walk_at "kqq"
      exact ⟨⟨rfl, _, _, rfl⟩, by simp [asymG, z]⟩
  · obtain ⟨rfl, y3, y4, rfl⟩ := h
    walk_at "kqq"
    refine f_ext x1 rfl ?_
    rw [show asymD φ w = none from z] at q
    exact q
  · subst h
    refine f_ext x1 (asym_imm z) ?_
    rw [show asymD φ w = some r from z] at q
    exact q
theorem VKit.non (K : VKit pg) (hb : BkAt s.M bk l φ) (hw : w ∈ hps l) (q : Q ((nonD φ w).getD .non) s) : W (callF pg (k + 7) 44 [.ref bk, hv w] s) Q E := by
  obtain ⟨bw, aw⟩ := mem_hps.mp hw
  have hx := hb.bx
  have lw : Lim w := bw.lim (by have := hx.sz; omega) (by have := hx.ln; omega)
  have hn : w.length ≤ 1000 := by have := bw.len; have := hx.ln; omega
  have hfu : ∀ u, Bel u l → (prts u).length < pg.fu := fun u hu => by
    rw [K.fu]; have := prts_len u; have := hu.prod; have := hx.sz; omega
  refine W_call K.t44 rfl ?_
  walk_at "w0"
  unfold bNon
  walk_at "kqq"
  refine K.toKit.parts (k := k + 3) lw ?_
  refine k_ext (Gw.refl _) fun p S hp hm _ x1 => ?_
  walk_at "kqq"
  refine z_findM (p := p) (w := true) (f := hv) (ks := prts w) (fun v => (prts (diff w v)).findSome? (nonG φ w v)) (fun e1 s1 => Gw S s1 ∧ ∃ y3 y4 y5 y6 y7, e1 = [some (.ref bk), some (hv w), y3, y4, y5, y6, y7]) (fun s1 => Gw S s1) ⟨Gw.refl _, _, _, _, _, _, rfl⟩ (hfu w bw) (fun e1 s1 h => h.1.at_ hm) (fun v hv' e1 s1 h => ?_) (fun z e1 s1 h => ?_) (fun r s1 z h => ?_)
  · obtain ⟨x2, y3, y4, y5, y6, y7, rfl⟩ := h
    have pp := prts_pair hw hv'
    have b1 := mem_prts hv'
    have bd := diff_bel b1
    have hwd : diff w v ∈ hps l := mem_hps.mpr ⟨pp.1.bw, pp.1.aw⟩
    have ld : Lim (diff w v) := pp.1.bw.lim (by have := hx.sz; omega) (by have := hx.ln; omega)
    have hnd : (diff w v).length ≤ 1000 := by have := bd.len; omega
    dsimp only [Tg.bind]
    walk_at "kqq"
    refine w_sub2 (k := k + 5) K.t12 K.fu (by rw [b1.len]) hn ?_
    walk_at "kqq"
    refine K.toKit.parts (k := k + 3) ld ?_
    refine k_ext x2 fun p2 S2 hp2 hm2 _ x3 => ?_
    walk_at "kqq"
    refine z_findM (p := p2) (w := true) (f := hv) (ks := prts (diff w v)) (nonG φ w v) (fun e1 s1 => s1 = S2 ∧ ∃ y5 y6 y7, e1 = [some (.ref bk), some (hv w), some (hv v), some (hv (diff w v)), y5, y6, y7]) (fun s1 => s1 = S2) ⟨rfl, _, _, _, rfl⟩ (hfu _ pp.1.bw) (fun e1 s1 h => by rw [h.1]; exact hm2) (fun u hu e1 s1 h => ?_) (fun z e1 s1 h => ?_) (fun r s1 z h => ?_)
    · obtain ⟨rfl, y5, y6, y7, rfl⟩ := h
      have x4 : Gw (HS.start s.M) s1 := x1.trans x3
      have hb' : BkAt s1.M bk l φ := BkAt.ext (s := HS.start s.M) hb x4
      have p2 := prts_pair hwd hu
      have b2 := mem_prts hu
      have p3 : PairIn l v u := tri_one hw hv' hu
      have p4 : PairIn l (sums v u) (diff (diff w v) u) := tri_two hw hv' hu
      obtain ⟨r, t24⟩ := K.t24
      obtain ⟨fq, ep, g1, g2⟩ := hb'.ex
      dsimp only [Tg.bind]
      walk_at "kqq"
      refine w_sub2 (k := k + 5) K.t12 K.fu (by rw [b2.len]) hnd ?_
      walk_at "kqq"
      refine k_mc g1 rfl K.m24 K.a24 ?_
      walk_at "kqq"
      refine x_arr (arr3 _ _ _) ?_
      walk_at "kqq"
      refine K.toBKit.fee (k := k) t24 hb' p3 ?_
      walk_at "kqq"
      refine k_mc g1 rfl K.m24 K.a24 ?_
      walk_at "kqq"
      refine w_add2 (k := k + 5) K.t7 K.fu (by rw [p3.bv.len, p3.bw.len]) (by rw [b1.len]; exact hn) ?_
      walk_at "kqq"
      refine x_arr (arr3 _ _ _) ?_
      walk_at "kqq"
      refine K.toBKit.fee (k := k) t24 hb' p4 ?_
      walk_at "kqq"
      refine k_mc g1 rfl K.m24 K.a24 ?_
      walk_at "kqq"
      refine x_arr (arr3 _ _ _) ?_
      walk_at "kqq"
      refine K.toBKit.fee (k := k) t24 hb' p2.1 ?_
      walk_at "kqq"
      refine k_mc g1 rfl K.m24 K.a24 ?_
      walk_at "kqq"
      refine x_arr (arr3 _ _ _) ?_
      walk_at "kqq"
      refine K.toBKit.fee (k := k) t24 hb' pp.1 ?_
      walk_at "kqq"
      refine c_b (fun e => ?_) (fun e => ?_)
      · walk_at "kqq"
        exact ⟨⟨rfl, _, _, _, rfl⟩, by simp [nonG, e]⟩
      · walk_at "kqq"
        exact ⟨by simp [nonG, e], rfl⟩
    · obtain ⟨rfl, y5, y6, y7, rfl⟩ := h
      walk_at "kqq"
      exact ⟨⟨x3, _, _, _, _, _, rfl⟩, z⟩
    · subst h
      exact ⟨z, x3⟩
  · obtain ⟨x2, y3, y4, y5, y6, y7, rfl⟩ := h
    walk_at "kqq"
    refine f_ext (x1.trans x2) rfl ?_
    rw [show nonD φ w = none from z] at q
    exact q
  · refine f_ext (x1.trans h) (non_imm z) ?_
    rw [show nonD φ w = some r from z] at q
    exact q
def isN : D → Bool
  | .non => true
  | _ => false
theorem w_isN {x : D} (q : Q (.bl (isN x)) s) : W (cmp .is x .non s) Q E := by cases x <;> exact q
theorem w_isnN {x : D} (q : Q (.bl (!isN x)) s) : W (cmp .isn x .non s) Q E := by cases x <;> exact q
theorem getD_tup {φ : Fe} {w : List Int} {r : D} (h : asymD φ w = some r) : isN r = false := by
  obtain ⟨_, a, _, _, e, _⟩ := List.findSome?_eq_some_iff.mp h
  unfold asymG at e
  split at e
  · cases e; rfl
  · cases e
theorem getD_tup2 {φ : Fe} {w : List Int} {r : D} (h : nonD φ w = some r) : isN r = false := by
  obtain ⟨_, a, _, _, e, _⟩ := List.findSome?_eq_some_iff.mp h
  obtain ⟨_, a, _, _, e, _⟩ := List.findSome?_eq_some_iff.mp e
  unfold nonG at e
  split at e
  · cases e; rfl
  · cases e
theorem vio_isN {φ : Fe} {hs : List (List Int)} : isN ((vioD φ hs).getD .non) = (vioD φ hs).isNone := by
  cases h : vioD φ hs with
  | none => rfl
  | some r =>
    obtain ⟨_, a, _, _, e, _⟩ := List.findSome?_eq_some_iff.mp h
    unfold vioW at e
    cases h2 : asymD φ a with
    | none => rw [h2, Option.none_or] at e; exact getD_tup2 e
    | some x => rw [h2, Option.some_or] at e; cases e; exact getD_tup h2
theorem VKit.among {p : Nat} {wr : Bool} {hs : List (List Int)} (K : VKit pg) (hb : BkAt s.M bk l φ) (hp : s.M[p]? = some (.lst wr (hs.map hv))) (hsub : ∀ w ∈ hs, w ∈ hps l) (hz : hs.length ≤ 1000) (q : Q ((vioD φ hs).getD .non) s) : W (callF pg (k + 8) 45 [.ref bk, .ref p] s) Q E := by
  refine W_call K.t45 rfl ?_
  walk_at "w0"
  unfold bAmong
  walk_at "kqq"
  refine z_findM (p := p) (w := wr) (f := hv) (ks := hs) (vioW φ) (fun e1 s1 => s1 = HS.start s.M ∧ ∃ y3 y4, e1 = [some (.ref bk), some (.ref p), y3, y4]) (fun s1 => s1 = HS.start s.M) ⟨rfl, _, _, rfl⟩ (by show _ < pg.fu; rw [K.fu]; omega) (fun e1 s1 h => by rw [h.1]; exact hp) (fun w hw e1 s1 h => ?_) (fun z e1 s1 h => ?_) (fun r s1 z h => ?_)
  · obtain ⟨rfl, y3, y4, rfl⟩ := h
    dsimp only [Tg.bind]
    walk_at "kqq"
    refine K.asym (k := k) (s := HS.start s.M) hb (hsub w hw) ?_
    walk_at "kqq"
    refine w_isN ?_
    cases ha : asymD φ w with
    | some r =>
      show TT _ (.bl (isN r)) _
      rw [getD_tup ha]
      walk_at "kqq"
      refine w_isnN ?_
      show TT _ (.bl (!isN r)) _
      rw [getD_tup ha]
      walk_at "kqq"
      exact ⟨by simp [vioW, ha], rfl⟩
    | none =>
      show TT _ (.bl true) _
      walk_at "kqq"
      refine K.non (k := k) (s := HS.start s.M) hb (hsub w hw) ?_
      walk_at "kqq"
      refine w_isnN ?_
      cases hn : nonD φ w with
      | some r =>
        show TT _ (.bl (!isN r)) _
        rw [getD_tup2 hn]
        walk_at "kqq"
        exact ⟨by simp [vioW, ha, hn], rfl⟩
      | none =>
        show TT _ (.bl false) _
        walk_at "kqq"
        exact ⟨⟨rfl, _, _, rfl⟩, by simp [vioW, ha, hn]⟩
  · obtain ⟨rfl, y3, y4, rfl⟩ := h
    walk_at "kqq"
    refine f_imm rfl rfl ?_
    rw [show vioD φ hs = none from z] at q
    exact q
  · subst h
    refine f_imm rfl (vio_imm z) ?_
    rw [show vioD φ hs = some r from z] at q
    exact q
theorem VKit.first (K : VKit pg) (hb : BkAt s.M bk l φ) (q : Q ((vioD φ (hps l)).getD .non) s) : W (callF pg (k + 9) 46 [.ref bk] s) Q E := by
  have hx := hb.bx
  obtain ⟨fq, ep, g1, g2⟩ := hb.ex
  refine W_call K.t46 rfl ?_
  walk_at "w0"
  unfold bFirst
  walk_at "kqq"
  refine K.check (k := k + 7) (s := HS.start s.M) hb ?_
  walk_at "kqq"
  refine k_mc (s := HS.start s.M) g1 rfl K.m21 K.a21 ?_
  walk_at "kqq"
  refine x_arr (arr1 _) ?_
  walk_at "kqq"
  refine K.toBKit.box_ (k := k + 7) (s := HS.start s.M) g1 ?_
  walk_at "kqq"
  refine K.toKit.heapsIn (k := k + 3) hx ?_
  refine k_ext (Gw.refl _) fun p S hp hm _ x1 => ?_
  walk_at "kqq"
  refine K.among (k := k) (BkAt.ext (s := HS.start s.M) hb x1) hm (fun _ h => h) (by have := hps_len l; have := hx.sz; omega) ?_
  refine f_ext x1 ?_ q
  cases h : vioD φ (hps l) with
  | none => rfl
  | some r => exact vio_imm h
end
end PV
set_option Elab.async false
set_option linter.all false
set_option maxRecDepth 100000
set_option maxHeartbeats 2000000
namespace PV
open PySem
variable {b : List MO}
def bBroken : List CS := [(.for_ (.nm 2) .val [.call 1009 [.var 0]] [(.for_ (.nm 3) .val [.call 1011 [.var 2]] [(.set (.nm 4) (.call 1010 [.var 2, .var 3])), (.ite (.ands [.cmp .lt (.tup [.bi .sum [.var 3], .var 3]) (.tup [.bi .sum [.var 4], .var 4]), .cmp .ne (.idx (.var 1) (.tup [.var 3, .var 4])) (.idx (.var 1) (.tup [.var 4, .var 3]))]) [(.ret (.tup [.cst (.str "symmetry"), .var 3, .var 4]))] [])]), (.for_ (.nm 3) .val [.call 1011 [.var 2]] [(.set (.nm 5) (.call 1010 [.var 2, .var 3])), (.for_ (.nm 4) .val [.call 1011 [.var 5]] [(.set (.nm 6) (.call 1010 [.var 5, .var 4])), (.set (.nm 7) (.bin .add (.idx (.var 1) (.tup [.var 3, .var 4])) (.idx (.var 1) (.tup [.call 1002 [.var 3, .var 4], .var 6])))), (.ite (.cmp .ne (.var 7) (.bin .add (.idx (.var 1) (.tup [.var 4, .var 6])) (.idx (.var 1) (.tup [.var 3, .var 5])))) [(.ret (.tup [.cst (.str "associativity"), .var 3, .var 4, .var 6]))] [])])])]), (.ret (.cst .non))]
section
variable {pg : Pg} {k : Nat} {s : HS b} {E : XW b} {Q : D → HS b → Prop} {l v w : List Int} {φ : Fe} {fq ep : Nat}
theorem w_keyT {X : Cur} {P : Ev} {e : Env} {i : Nat} (h : e[i]? = some (some (hv v))) (q : Q (keyD v) s) : W (evE P X (.tup [.bi .sum [.var i], .var i]) e s) Q E := by
  refine w_tup (w_cons (w_bi (w_cons (w_var h (w_nil ?_)))))
  refine w_sum (ys := v.map D.int) rfl (asI v) ?_
  refine w_cons (w_var h (w_nil ⟨so_le (by simp), q⟩))
theorem w_ixf {P : Ev} (hf : s.M[fq]? = some (.dct ep (feesD l φ))) (hp : PairIn l v w) (q : Q (.int (φ (v, w))) s) : W (index (.ref fq) (.tup [hv v, hv w]) s) Q E := w_ixd hf (kOk_pv (v, w)) (getK_in kinj_pv hp.mem) q
theorem w_broken (K : LKit pg) (t : pg.tb 1039 = some ⟨2, 8, bBroken⟩) (t2 : pg.tb 1002 = some ⟨2, 4, bLSum⟩) (hx : Bx l) (hf : s.M[fq]? = some (.dct ep (feesD l φ))) (q : Q ((vioD φ (hps l)).getD .non) s) : W (callF pg (k + 4) 1039 [hv l, .ref fq] s) Q E := by
  have hfu : ∀ u, Bel u l → (prts u).length < pg.fu := fun u hu => by
    rw [K.fu]; have := prts_len u; have := hu.prod; have := hx.sz; omega
  refine W_call t rfl ?_
  walk_at "w0"
  unfold bBroken
  walk_at "kqq"
  refine K.kheaps (k := k + 2) hx.lim ?_
  refine k_ext (Gw.refl _) fun p S hp hm _ x1 => ?_
  walk_at "kqq"
  refine z_findM (p := p) (w := true) (f := hv) (ks := hps l) (vioW φ) (fun e1 s1 => Gw S s1 ∧ ∃ y2 y3 y4 y5 y6 y7, e1 = [some (hv l), some (.ref fq), y2, y3, y4, y5, y6, y7]) (fun s1 => Gw S s1) ⟨Gw.refl _, _, _, _, _, _, _, rfl⟩ (by show _ < pg.fu; rw [K.fu]; have := hps_len l; have := hx.sz; omega) (fun e1 s1 h => h.1.at_ hm) (fun w hw e1 s1 h => ?_) (fun z e1 s1 h => ?_) (fun r s1 z h => ?_)
  · obtain ⟨x2, y2, y3, y4, y5, y6, y7, rfl⟩ := h
    obtain ⟨bw, aw⟩ := mem_hps.mp hw
    have lw : Lim w := bw.lim (by have := hx.sz; omega) (by have := hx.ln; omega)
    have hz : prodS w ≤ 1000 := by have := bw.prod; have := hx.sz; omega
    have hn : w.length ≤ 1000 := by have := bw.len; have := hx.ln; omega
    dsimp only [Tg.bind]
    walk_at "kqq"
    refine K.kparts (k := k + 1) lw hz aw ?_
    refine k_ext x2 fun p2 S2 hp2 hm2 _ x3 => ?_
    walk_at "kqq"
    refine z_findM (p := p2) (w := true) (f := hv) (ks := prts w) (asymG φ w) (fun e1 s1 => s1 = S2 ∧ ∃ y3 y4, e1 = [some (hv l), some (.ref fq), some (hv w), y3, y4, y5, y6, y7]) (fun s1 => s1 = S2) ⟨rfl, _, _, rfl⟩ (hfu w bw) (fun e1 s1 h => by rw [h.1]; exact hm2) (fun v hv' e1 s1 h => ?_) (fun z e1 s1 h => ?_) (fun r s1 z h => ?_)
    · obtain ⟨rfl, y3, y4, rfl⟩ := h
      have pp := prts_pair hw hv'
      have b1 := mem_prts hv'
      have hf' := (x1.trans x3).at_ (s := HS.start s.M) hf
      dsimp only [Tg.bind]
      walk_at "kqq"
      refine K.kless (k := k + 2) hn ?_
      walk_at "kqq"
      refine w_sum (ys := v.map D.int) rfl (asI v) ?_
      walk_at "kqq"
      refine w_sum (ys := (diff w v).map D.int) rfl (asI _) ?_
      walk_at "kqq"
      refine w_klt ?_
      walk_at "kqq"
      refine ⟨fun z => ?_, fun z => ?_⟩
      · walk_at "kqq"
        refine w_ixf (P := pg.ev 0) hf' pp.1 ?_
        walk_at "kqq"
        refine w_ixf (P := pg.ev 0) hf' pp.2 ?_
        walk_at "kqq"
        refine c_b (fun e => ?_) (fun e => ?_)
        · walk_at "kqq"
          exact ⟨⟨rfl, _, _, rfl⟩, by simp [asymG, z, e]⟩
        · walk_at "kqq"
          exact ⟨by simp [asymG, z, e], rfl⟩
      · rw [z]
        walk_at "kqq"
        exact ⟨⟨rfl, _, _, rfl⟩, by simp [asymG, z]⟩
    · obtain ⟨rfl, y3, y4, rfl⟩ := h
      walk_at "kqq"
      have za : asymD φ w = none := z
      refine K.kparts (k := k + 1) lw hz aw ?_
      refine k_ext x3 fun p3 S3 hp3 hm3 _ x5 => ?_
      walk_at "kqq"
      refine z_findM (p := p3) (w := true) (f := hv) (ks := prts w) (fun v => (prts (diff w v)).findSome? (nonG φ w v)) (fun e1 s1 => Gw S3 s1 ∧ ∃ y3 y4 y5 y6 y7, e1 = [some (hv l), some (.ref fq), some (hv w), y3, y4, y5, y6, y7]) (fun s1 => Gw S3 s1) ⟨Gw.refl _, _, _, _, _, _, rfl⟩ (hfu w bw) (fun e1 s1 h => h.1.at_ hm3) (fun v hv' e1 s1 h => ?_) (fun z e1 s1 h => ?_) (fun r s1 z h => ?_)
      · obtain ⟨x6, y3, y4, y5, y6, y7, rfl⟩ := h
        have pp := prts_pair hw hv'
        have b1 := mem_prts hv'
        have bd := diff_bel b1
        have hwd : diff w v ∈ hps l := mem_hps.mpr ⟨pp.1.bw, pp.1.aw⟩
        have ld : Lim (diff w v) := pp.1.bw.lim (by have := hx.sz; omega) (by have := hx.ln; omega)
        have hnd : (diff w v).length ≤ 1000 := by have := bd.len; omega
        have hzd : prodS (diff w v) ≤ 1000 := by have := pp.1.bw.prod; have := hx.sz; omega
        dsimp only [Tg.bind]
        walk_at "kqq"
        refine K.kless (k := k + 2) hn ?_
        walk_at "kqq"
        refine K.kparts (k := k + 1) ld hzd pp.1.aw ?_
        refine k_ext x6 fun p4 S4 hp4 hm4 _ x7 => ?_
        walk_at "kqq"
        refine z_findM (p := p4) (w := true) (f := hv) (ks := prts (diff w v)) (nonG φ w v) (fun e1 s1 => s1 = S4 ∧ ∃ y4 y6 y7, e1 = [some (hv l), some (.ref fq), some (hv w), some (hv v), y4, some (hv (diff w v)), y6, y7]) (fun s1 => s1 = S4) ⟨rfl, _, _, _, rfl⟩ (hfu _ pp.1.bw) (fun e1 s1 h => by rw [h.1]; exact hm4) (fun u hu e1 s1 h => ?_) (fun z e1 s1 h => ?_) (fun r s1 z h => ?_)
        · obtain ⟨rfl, y4, y6, y7, rfl⟩ := h
          have hf' := (x1.trans (x5.trans x7)).at_ (s := HS.start s.M) hf
          have p2 := prts_pair hwd hu
          have b2 := mem_prts hu
          have q3 : PairIn l v u := tri_one hw hv' hu
          have q4 : PairIn l (sums v u) (diff (diff w v) u) := tri_two hw hv' hu
          dsimp only [Tg.bind]
          walk_at "kqq"
          refine K.kless (k := k + 2) hnd ?_
          walk_at "kqq"
          refine w_ixf (P := pg.ev 0) hf' q3 ?_
          walk_at "kqq"
          refine w_lsum (k := k + 2) t2 K.fu (by rw [b1.len]; exact hn) ?_
          walk_at "kqq"
          refine w_ixf (P := pg.ev 0) hf' q4 ?_
          walk_at "kqq"
          refine w_ixf (P := pg.ev 0) hf' p2.1 ?_
          walk_at "kqq"
          refine w_ixf (P := pg.ev 0) hf' pp.1 ?_
          walk_at "kqq"
          refine c_b (fun e => ?_) (fun e => ?_)
          · walk_at "kqq"
            exact ⟨⟨rfl, _, _, _, rfl⟩, by simp [nonG, e]⟩
          · walk_at "kqq"
            exact ⟨by simp [nonG, e], rfl⟩
        · obtain ⟨rfl, y4, y6, y7, rfl⟩ := h
          walk_at "kqq"
          exact ⟨⟨x7, _, _, _, _, _, rfl⟩, z⟩
        · subst h
          exact ⟨z, x7⟩
      · obtain ⟨x6, y3, y4, y5, y6, y7, rfl⟩ := h
        walk_at "kqq"
        have zn : nonD φ w = none := z
        exact ⟨⟨x5.trans x6, _, _, _, _, _, _, rfl⟩, by simp [vioW, za, zn]⟩
      · have zn : nonD φ w = some r := z
        exact ⟨by simp [vioW, za, zn], x5.trans h⟩
    · subst h
      have za : asymD φ w = some r := z
      exact ⟨by simp [vioW, za], x3⟩
  · obtain ⟨x6, y2, y3, y4, y5, y6, y7, rfl⟩ := h
    walk_at "kqq"
    refine f_ext (x1.trans x6) rfl ?_
    rw [show vioD φ (hps l) = none from z] at q
    exact q
  · refine f_ext (x1.trans h) (vio_imm z) ?_
    rw [show vioD φ (hps l) = some r from z] at q
    exact q
end
end PV
set_option Elab.async false
set_option linter.all false
set_option maxRecDepth 100000
set_option maxHeartbeats 2000000
namespace PV
open PySem
variable {b : List MO}
section
variable {α β : Type} [DecidableEq α] {s : HS b} {E : XW b}
theorem w_lcf {p n : Nat} {w : Bool} {f : α → D} {ks : List α} {turn : D → HS b → R b (Option D)} {Q : List D → HS b → Prop} (F : α → β → D) (Pv : α → β → Prop) (I : HS b → Prop) (d0 : β) (nd : ks.Nodup) (h0 : I s) (hp : ∀ s1, I s1 → s1.M[p]? = some (.lst w (ks.map f))) (hf : ks.length < n)
    (h : ∀ a ∈ ks, ∀ s1, I s1 → W (turn (f a) s1) (fun r s2 => ∃ v, r = some (F a v) ∧ Pv a v ∧ I s2) X0) (q : ∀ (g : α → β) s1, (∀ a ∈ ks, Pv a (g a)) → I s1 → Q (ks.map fun a => F a (g a)) s1) : W (lcL (Src.live p).at turn n 0 [] s) Q E := by
  refine lcL_W ks.length (fun i acc s1 => i ≤ ks.length ∧ I s1 ∧ ∃ g : α → β, acc = (ks.take i).map (fun a => F a (g a)) ∧ ∀ a ∈ ks.take i, Pv a (g a)) (fun i acc s1 ⟨hi, hI, g, ha, hg⟩ => ⟨hi, ?_⟩) n 0 [] s (by omega) ⟨Nat.zero_le _, h0, fun _ => d0, by simp, by simp⟩
  have hat : ∀ i, (Src.live p).at i s1 = some (ks.map f)[i]? := fun i => by simp [Src.at, hp s1 hI]
  by_cases hl : i < ks.length
  · have e1 : ks[i]? = some ks[i] := by simp [hl]
    have et : ks.take (i + 1) = ks.take i ++ [ks[i]] := by rw [List.take_add_one, e1]; rfl
    have hm : ks[i] ∈ ks := List.getElem_mem hl
    have hnm : ks[i] ∉ ks.take i := fun z => by
      obtain ⟨j, hj⟩ := List.mem_iff_getElem?.mp z
      have hji : j < i := by
        have := (List.getElem?_eq_some_iff.mp hj).1
        rw [List.length_take] at this
        omega
      rw [List.getElem?_take_of_lt hji] at hj
      have := (List.getElem?_inj (by omega) nd).mp (hj.trans e1.symm)
      omega
    refine .inr ⟨hl, f ks[i], by rw [hat, List.getElem?_map, e1]; rfl, ?_⟩
    refine (h _ hm s1 hI).imp fun r s2 ⟨v, hr, hv, hI2⟩ => ?_
    subst hr
    have hc : ∀ a ∈ ks.take i, upF g ks[i] v a = g a := fun a ha' => by
      unfold upF
      have hne : a ≠ ks[i] := fun z => hnm (z ▸ ha')
      rw [if_neg hne]
    refine ⟨hl, hI2, upF g ks[i] v, ?_, ?_⟩
    · rw [et, List.map_append, ha]
      congr 1
      · exact List.map_congr_left fun a ha' => by rw [hc a ha']
      · simp [upF]
    · rw [et]
      intro a ha'
      rcases List.mem_append.mp ha' with z | z
      · rw [hc a z]; exact hg a z
      · rw [List.mem_singleton.mp z]; simpa [upF] using hv
  · have : i = ks.length := by omega
    subst this
    rw [List.take_length] at ha hg
    exact .inl ⟨by rw [hat]; simp, by rw [ha]; exact q g s1 hg hI⟩
theorem z_forM {e : Env} {N : Env → HS b → Prop} {T : D → HS b → Prop} {EE : Nat → List (Str × D) → Env → HS b → Prop} {p : Nat} {w : Bool} {f : α → D} {ks : List α} {turn : D → Env → HS b → Option (SR b)} {fu : Nat} (I : List α → Env → HS b → Prop) (nd : ks.Nodup) (h0 : I [] e s) (hf : ks.length < fu) (hl : ∀ xs e1 s1, I xs e1 s1 → s1.M[p]? = some (.lst w (ks.map f)))
    (hs : ∀ xs a, (∃ t, ks = xs ++ a :: t) → a ∉ xs → ∀ e1 s1, I xs e1 s1 → WS (turn (f a) e1 s1) (I (xs ++ [a])) T EE) (hN : ∀ e1 s1, I ks e1 s1 → N e1 s1) : WS (forL (Src.live p).at turn fu 0 e s) N T EE := by
  refine forL_W ks.length (fun i e s => i ≤ ks.length ∧ I (ks.take i) e s) (fun i e1 s1 ⟨hi, h⟩ => ⟨hi, ?_⟩) fu 0 e s hf ⟨Nat.zero_le _, h0⟩
  have hat : ∀ i, (Src.live p).at i s1 = some (ks.map f)[i]? := fun i => by simp [Src.at, hl _ e1 s1 h]
  by_cases hlt : i < ks.length
  · have e1' : ks[i]? = some ks[i] := by simp [hlt]
    have et : ks.take (i + 1) = ks.take i ++ [ks[i]] := by rw [List.take_add_one, e1']; rfl
    have ec : ks = ks.take i ++ ks[i] :: ks.drop (i + 1) := by
      rw [← List.drop_eq_getElem_cons hlt, List.take_append_drop]
    have hnm : ks[i] ∉ ks.take i := fun z => by
      rw [ec, List.nodup_append] at nd
      exact nd.2.2 _ z _ List.mem_cons_self rfl
    refine .inr ⟨hlt, f ks[i], by rw [hat, List.getElem?_map, e1']; rfl, (hs _ _ ⟨_, ec⟩ hnm e1 s1 h).mono (fun e2 s2 z => ⟨hlt, ?_⟩) (fun _ _ z => z) fun _ _ _ _ z => z⟩
    rw [et]
    exact z
  · have : i = ks.length := by omega
    subst this
    rw [List.take_length] at h
    exact .inl ⟨by rw [hat]; simp, hN e1 s1 h⟩
theorem ks_new {L : OL} {i p ep : Nat} {kd : α → D} {v : α → D} {ks : List α} {a : α} {x : D} {K : HS b → Prop} (H : Has s L) (hi : L[i]? = some (p, .dct ep (dOf kd v ks))) (hk : KInj kd) (ho : kOk (kd a) = true) (hz : ks.length + 1 ≤ 100000) (ha : a ∉ ks) (h : ∀ ep' S, Has S (L.set i (p, .dct ep' (dOf kd (upF v a x) (ks ++ [a])))) → K S) : ST (.ref p) (kd a) x s K := by
  refine k_stD (H.get hi) ho (by simpa [dOf] using hz) ?_
  rw [putK_out hk ha]
  exact k_se H hi fun S H' => h _ S H'
theorem ks_in {L : OL} {i p ep : Nat} {kd : α → D} {v : α → D} {ks : List α} {a : α} {x : D} {K : HS b → Prop} (H : Has s L) (hi : L[i]? = some (p, .dct ep (dOf kd v ks))) (hk : KInj kd) (ho : kOk (kd a) = true) (hz : ks.length + 1 ≤ 100000) (nd : ks.Nodup) (ha : a ∈ ks) (h : ∀ ep' S, Has S (L.set i (p, .dct ep' (dOf kd (upF v a x) ks))) → K S) : ST (.ref p) (kd a) x s K := by
  refine k_stD (H.get hi) ho (by simpa [dOf] using hz) ?_
  rw [putK_in hk nd ha]
  exact k_se H hi fun S H' => h _ S H'
theorem pairsD_map {kd : α → D} {v : α → D} (hk : ∀ a, kOk (kd a) = true) : ∀ ks : List α, pairsD (ks.map fun a => .tup [kd a, v a]) = some (dOf kd v ks)
  | [] => rfl
  | a :: ks => by
    simp only [List.map_cons, pairsD, hk, if_true, pairsD_map hk ks, Option.map_some]
    rfl
end
theorem upF_int {α : Type} [DecidableEq α] (v : α → Int) (a : α) (x : Int) : upF (fun p => D.int (v p)) a (.int x) = fun p => D.int (upF v a x p) := by
  funext c
  unfold upF
  split <;> rfl
theorem kinj_hv' : KInj hv := kinj_hv
theorem pl_pv (p : List Int × List Int) : Pl 3 (pdD (pv p)) := pl_tupl fun x hx => by
  rcases List.mem_cons.mp hx with rfl | hx
  · exact pl_hv _
  · rw [List.mem_singleton.mp hx]
    exact pl_hv _
theorem eqD_nil {M : List MO} {p q : Nat} {w v : Bool} {xs : List D} (hp : M[p]? = some (.lst w xs)) (hq : M[q]? = some (.lst v [])) (hi : D.immL xs = true) (h : ∀ x ∈ xs, Pl 3 (pdD x)) : eqD M (.ref p) (.ref q) = some xs.isEmpty := by
  have h1 : Pl 4 (.list (pdL xs)) := pl_list h
  have h2 : Pl 4 (.list (pdL ([] : List D))) := pl_list fun x hx => nomatch hx
  rw [eqD_of (deep_lst hp hi) (deep_lst hq rfl) h1 h2 (by decide) (by decide)]
  cases xs <;> simp [pdL, PyData.eqv, PyData.eqvAll]
def bLFees : List CS := [(.set (.nm 3) (.bi .dict [.lc (.nm 9) .val [.call 1009 [.var 1]] [] (.tup [.var 9, .bin .sub (.call 1001 [.var 0, .cst (.int 19)]) (.cst (.int 9))]) [9]])), (.set (.nm 4) (.dct0)), (.for_ (.tp [5, 6]) .val [.call 1012 [.var 1]] [(.sub (.var 4) (.tup [.var 5, .var 6]) (.bin .sub (.bin .sub (.idx (.var 3) (.call 1002 [.var 5, .var 6])) (.idx (.var 3) (.var 5))) (.idx (.var 3) (.var 6)))), (.ite (.cmp .eq (.var 2) (.cst (.int 3))) [(.sub (.var 4) (.tup [.var 5, .var 6]) (.bin .sub (.call 1001 [.var 0, .cst (.int 4)]) (.cst (.int 1))))] [])]), (.set (.nm 7) (.call 1012 [.var 1])), (.for_ (.nm 8) .range [.bin .mul (.idx (.lst [.cst (.int 0), .cst (.int 1), .cst (.int 2), .cst (.int 0)]) (.var 2)) (.bi .int [.cmp .ne (.var 7) (.lst [])])] [(.sub (.var 4) (.idx (.var 7) (.call 1001 [.var 0, .bi .len [.var 7]])) (.bin .sub (.call 1001 [.var 0, .cst (.int 9)]) (.cst (.int 4))))]), (.ret (.var 4))]
theorem PairIn.sum_mem {l v w : List Int} (h : PairIn l v w) : v ∈ hps l ∧ w ∈ hps l ∧ sums v w ∈ hps l := ⟨mem_hps.mpr ⟨h.bv, h.av⟩, mem_hps.mpr ⟨h.bw, h.aw⟩, mem_hps.mpr ⟨h.bs, sums_any (by rw [h.bv.len, h.bw.len]) h.bv.pos h.bw.pos h.av⟩⟩
section
variable {pg : Pg} {k : Nat} {s : HS b} {E : XW b} {Q : D → HS b → Prop} {l : List Int} {L : OL} {pp i : Nat} {x y r : Int}
theorem prs_tot {l : List Int} (hx : Bx l) : (prs l).length ≤ 10000 := by
  have h1 : (prs l).length ≤ (hps l).length * 64 := flat_len fun w hw => by
    rw [List.length_map]
    exact Nat.le_trans (prts_len w) (Nat.le_trans (mem_hps.mp hw).1.prod hx.sz)
  have := hps_len l
  have h3 := hx.sz
  have h2 : (hps l).length * 64 ≤ 64 * 64 := Nat.mul_le_mul (by omega) (Nat.le_refl _)
  omega
theorem set_set {L : OL} {i : Nat} {a c : Nat × MO} : (L.set i a).set i c = L.set i c := by simp
theorem get_set {L : OL} {i : Nat} {a c : Nat × MO} (h : L[i]? = some c) : (L.set i a)[i]? = some a := by
  have hl : i < L.length := (List.getElem?_eq_some_iff.mp h).1
  simp [hl]
theorem set_same {L : OL} {i : Nat} {c : Nat × MO} (h : L[i]? = some c) : L.set i c = L := by
  apply List.ext_getElem?
  intro j
  by_cases e : j = i
  · subst e
    rw [get_set h, h]
  · rw [List.getElem?_set_ne (Ne.symm e)]
def Deriv (l : List Int) (φ : Fe) (g : List Int → Int) : Prop := ∀ p ∈ prs l, φ p = g (sums p.1 p.2) - g p.1 - g p.2
theorem w_lfees (K : LKit pg) (t : pg.tb 1015 = some ⟨3, 10, bLFees⟩) (t2 : pg.tb 1002 = some ⟨2, 4, bLSum⟩) (hx : Bx l) (H0 : Has s L) (hi : L[i]? = some (pp, .lst true [.int x, .int y])) (r0 : 0 ≤ r) (r1 : r ≤ 3)
    (q : ∀ (φ : Fe) x' y' fq ep S, (r = 0 → ∃ g, Deriv l φ g) → Has S ((fq, .dct ep (feesD l φ)) :: L.set i (pp, .lst true [.int x', .int y'])) → Q (.ref fq) S) : W (callF pg (k + 4) 1015 [.ref pp, hv l, .int r] s) Q E := by
  have hps64 : (hps l).length ≤ 64 := by have := hps_len l; have := hx.sz; omega
  have hpt := prs_tot hx
  have ndp := nodup_prs hx.pos
  refine W_call t rfl ?_
  walk_at "w0"
  unfold bLFees
  walk_at "kqq"
  refine K.kheaps (k := k + 2) hx.lim ?_
  refine k_al H0.start fun hq S H => ?_
  walk_at "kqq"
  refine w_lcf (ks := hps l) (f := hv) (F := fun a v => .tup [hv a, .int v]) (fun _ (_ : Int) => True) (fun s1 => ∃ x y, Has s1 ((hq, .lst true ((hps l).map hv)) :: L.set i (pp, .lst true [.int x, .int y]))) 0 (nodup_hps l) ⟨x, y, by
    rw [set_same hi]
    exact H⟩ (fun s1 ⟨_, _, h⟩ => h.get (i := 0) rfl) (by show _ < pg.fu; rw [K.fu]; omega) (fun a ha s1 ⟨x1, y1, h⟩ => ?_) (fun g s1 hg ⟨x1, y1, h⟩ => ?_)
  · refine w_turn rfl ?_
    walk_at "kqq"
    refine k_draw (k := k + 2) K.draw h (i := i + 1) (by simpa using get_set hi) (by decide) (by decide) fun v x2 y2 S2 v0 v1 h2 => ?_
    walk_at "kqq"
    refine ⟨v - 9, rfl, trivial, x2, y2, ?_⟩
    simpa using h2
  · refine k_al h fun lq S2 h2 => ?_
    walk_at "kqq"
    refine a_dictL (h2.get (i := 0) rfl) (pairsD_map (v := fun a => D.int (g a)) kOk_hv (hps l)) (by simp [dOf]; omega) ?_
    obtain ⟨m, em⟩ := foldK_dOf (v := fun a => D.int (g a)) kinj_hv (hps l) [] 0 (by simpa using nodup_hps l)
    have em' : foldK (0, []) (dOf hv (fun a => D.int (g a)) (hps l)) = (m, dOf hv (fun a => D.int (g a)) (hps l)) := em
    rw [em']
    refine k_al h2 fun wq S3 h3 => ?_
    walk_at "kqq"
    refine k_al h3 fun fq S4 h4 => ?_
    walk_at "kqq"
    refine K.kpairs (k := k) hx ?_
    refine k_al h4 fun pq S5 h5 => ?_
    walk_at "kqq"
    refine z_forM (ks := prs l) (f := pv) (w := true) (p := pq) (fun xs e1 s1 => ∃ x y ep, ∃ φ : Fe, ∃ y5 y6, Has s1 ((pq, .lst true ((prs l).map pv)) :: (fq, .dct ep (dOf pv (fun p => .int (φ p)) xs)) :: (wq, .dct m (dOf hv (fun a => D.int (g a)) (hps l))) :: L.set i (pp, .lst true [.int x, .int y])) ∧ (r = 0 → ∀ p ∈ xs, φ p = g (sums p.1 p.2) - g p.1 - g p.2) ∧ e1 = [some (.ref pp), some (hv l), some (.int r), some (.ref wq), some (.ref fq), y5, y6, none, none, none]) ndp ⟨x1, y1, 0, fun _ => 0, _, _, h5.sub (by walk_at "ssl"), (fun _ p hp => nomatch hp), rfl⟩ (by show _ < pg.fu; rw [K.fu]; omega) (fun xs e1 s1 ⟨_, _, _, _, _, _, h, _, _⟩ => h.get (i := 0) rfl) (fun xs a hxs hna e1 s1 hI => ?_) (fun e1 s1 hI => ?_)
    · obtain ⟨x2, y2, ep, φ, y5, y6, h, hd, rfl⟩ := hI
      obtain ⟨tl, htl⟩ := hxs
      have ham : a ∈ prs l := by rw [htl]; exact List.mem_append_right _ List.mem_cons_self
      have hlen : xs.length + 1 ≤ 10000 := by
        have : (prs l).length = xs.length + (tl.length + 1) := by rw [htl]; simp
        omega
      have hp := pair_in ham hx.pos
      obtain ⟨m1, m2, m3⟩ := hp.sum_mem
      show WS (exB _ _ _ [some (.ref pp), some (hv l), some (.int r), some (.ref wq), some (.ref fq), some (hv a.1), some (hv a.2), none, none, none] s1) _ _ _
      walk_at "kqq"
      refine w_lsum (k := k + 2) t2 K.fu (by rw [hp.bv.len]; have := hx.ln; omega) ?_
      walk_at "kqq"
      refine w_ixd (h.get (i := 2) rfl) (kOk_hv _) (getK_in kinj_hv m3) ?_
      walk_at "kqq"
      refine w_ixd (h.get (i := 2) rfl) (kOk_hv _) (getK_in kinj_hv m1) ?_
      walk_at "kqq"
      refine w_ixd (h.get (i := 2) rfl) (kOk_hv _) (getK_in kinj_hv m2) ?_
      walk_at "kqq"
      refine ks_new (kd := pv) (a := a) h (i := 1) rfl kinj_pv (kOk_pv a) (by omega) hna fun ep2 S6 h6 => ?_
      rw [upF_int] at h6
      walk_at "kqq"
      refine c_b (fun e => ?_) (fun e => ?_)
      · walk_at "kqq"
        refine k_draw (k := k + 2) K.draw h6 (i := i + 3) (by simpa using get_set hi) (by decide) (by decide) fun v x3 y3 S7 v0 v1 h7 => ?_
        have h7' := h7
        simp only [List.set_cons_succ, List.set_cons_zero, set_set] at h7'
        walk_at "kqq"
        refine ks_in (kd := pv) (a := a) h7' (i := 1) rfl kinj_pv (kOk_pv a) (by simp; omega) (by rw [htl] at ndp; exact (List.sublist_append_left (xs ++ [a]) tl).nodup (by simpa using ndp)) (List.mem_append_right _ List.mem_cons_self) fun ep3 S8 h8 => ?_
        rw [upF_int] at h8
        walk_at "kqq"
        exact ⟨x3, y3, ep3, _, _, _, h8, (fun z => by omega), rfl⟩
      · walk_at "kqq"
        refine ⟨x2, y2, ep2, _, _, _, h6, (fun z p hpm => ?_), rfl⟩
        rcases List.mem_append.mp hpm with hpm | hpm
        · unfold upF
          have hne : p ≠ a := fun e => hna (e ▸ hpm)
          rw [if_neg hne]
          exact hd z p hpm
        · rw [List.mem_singleton.mp hpm]
          simp [upF]
    · obtain ⟨x2, y2, ep, φ, y5, y6, h, hd, rfl⟩ := hI
      walk_at "kqq"
      refine K.kpairs (k := k) hx ?_
      refine k_al h fun pq2 S6 h6 => ?_
      walk_at "kqq"
      refine k_al h6 fun rl S7 h7 => ?_
      obtain ⟨c, hc, c0, c1, cr⟩ : ∃ c : Int, L2.atI [D.int 0, .int 1, .int 2, .int 0] r = some (.int c) ∧ 0 ≤ c ∧ c ≤ 2 ∧ (r = 0 → c = 0) := by
        have : r = 0 ∨ r = 1 ∨ r = 2 ∨ r = 3 := by omega
        rcases this with rfl | rfl | rfl | rfl
        · exact ⟨0, rfl, by decide, by decide, by decide⟩
        · exact ⟨1, rfl, by decide, by decide, by decide⟩
        · exact ⟨2, rfl, by decide, by decide, by decide⟩
        · exact ⟨0, rfl, by decide, by decide, by decide⟩
      walk_at "kqq"
      refine w_ixr (h7.get (i := 0) rfl) hc ?_
      walk_at "kqq"
      refine k_al h7 fun el S8 h8 => ?_
      refine w_neD (eqD_nil (h8.get (i := 2) rfl) (h8.get (i := 0) rfl) (pvs_imm _) fun z hz => by
        obtain ⟨p, _, rfl⟩ := List.mem_map.mp hz
        exact pl_pv p) ?_
      walk_at "kqq"
      refine w_mul (mulOk_left (by omega)) ?_
      obtain ⟨n, hn, n0, n2, ne, nc⟩ : ∃ n : Int, n = c * (if (!((prs l).map pv).isEmpty) = true then 1 else 0) ∧ 0 ≤ n ∧ n ≤ 2 ∧ (0 < n → prs l ≠ []) ∧ (c = 0 → n = 0) := by
        refine ⟨_, rfl, ?_⟩
        split
        · rename_i z
          refine ⟨by omega, by omega, (fun _ e => ?_), by omega⟩
          rw [e] at z
          cases z
        · exact ⟨by omega, by omega, by omega, by omega⟩
      rw [← hn]
      walk_at "kqq"
      refine w_srcR (by omega) (by omega) ?_
      have h9 := h8.sub (L' := (pq2, .lst true ((prs l).map pv)) :: (fq, .dct ep (dOf pv (fun p => .int (φ p)) (prs l))) :: L.set i (pp, .lst true [.int x2, .int y2])) (by walk_at "ssl")
      refine z_rng (fun _ e1 s1 => ∃ x y ep, ∃ φ : Fe, ∃ y8, Has s1 ((pq2, .lst true ((prs l).map pv)) :: (fq, .dct ep (dOf pv (fun p => .int (φ p)) (prs l))) :: L.set i (pp, .lst true [.int x, .int y])) ∧ (r = 0 → Deriv l φ g) ∧ e1 = [some (.ref pp), some (hv l), some (.int r), some (.ref wq), some (.ref fq), y5, y6, some (.ref pq2), y8, none]) ⟨_, _, _, _, _, h9, hd, rfl⟩ (by show _ < pg.fu; rw [K.fu]; omega) (fun j e1 s1 hj hI => ?_) (fun e1 s1 hI => ?_)
      · obtain ⟨x3, y3, ep3, φ3, y8, h, hd3, rfl⟩ := hI
        have hne := ne (by omega)
        have hpos : 0 < (prs l).length := List.length_pos_iff.mpr hne
        dsimp only [Tg.bind]
        walk_at "kqq"
        refine k_draw (k := k + 2) K.draw h (i := i + 2) (by simpa using get_set hi) (by decide) (by decide) fun v x4 y4 S7 v0 v1 h7 => ?_
        have h7' := h7
        simp only [List.set_cons_succ, List.set_cons_zero, set_set] at h7'
        walk_at "kqq"
        refine w_len (ys := (prs l).map pv) (by simp only [items, h7'.get (i := 0) rfl]) ?_
        rw [List.length_map]
        walk_at "kqq"
        refine k_draw (k := k + 2) K.draw h7' (i := i + 2) (by simpa using get_set hi) (by omega) (by omega) fun v' x5 y5' S9 v0' v1' h9 => ?_
        have h9' := h9
        simp only [List.set_cons_succ, List.set_cons_zero, set_set] at h9'
        obtain ⟨z, hz, hz2⟩ := atI_lt (xs := (prs l).map pv) v0' (by simpa using v1')
        refine w_ixr (h9'.get (i := 0) rfl) hz ?_
        rw [List.getElem?_map] at hz2
        cases hza : (prs l)[v'.toNat]? with
        | none => rw [hza] at hz2; cases hz2
        | some a =>
          rw [hza] at hz2
          cases hz2
          refine ks_in (kd := pv) (a := a) h9' (i := 1) rfl kinj_pv (kOk_pv a) (by omega) ndp (List.mem_of_getElem? hza) fun ep3 S8 h8 => ?_
          rw [upF_int] at h8
          walk_at "kqq"
          exact ⟨_, _, _, _, _, h8, (fun z => by have := nc (cr z); omega), rfl⟩
      · obtain ⟨x3, y3, ep3, φ3, y8, h, hd3, rfl⟩ := hI
        walk_at "kqq"
        refine h_obj (o := .dct ep3 (feesD l φ3)) h (by walk_at "ssl") (fun ys e => nomatch e) fun S H => ?_
        exact q φ3 x3 y3 fq ep3 S (fun z => ⟨g, hd3 z⟩) H
end
theorem sums_comm (v w : List Int) : sums v w = sums w v := by
  unfold sums
  rw [List.zipWith_comm]
  congr 1
  funext a c
  exact Int.add_comm _ _
theorem deriv_none {l : List Int} {φ : Fe} {g : List Int → Int} (h0 : ∀ m ∈ l, 0 ≤ m) (h : Deriv l φ g) : vioD φ (hps l) = none := by
  refine List.findSome?_eq_none_iff.mpr fun w hw => ?_
  have ha : asymD φ w = none := List.findSome?_eq_none_iff.mpr fun v hv' => by
    obtain ⟨p1, p2⟩ := prts_pair hw hv'
    have e1 := h _ p1.mem
    have e2 := h _ p2.mem
    dsimp only at e1 e2
    rw [sums_comm (diff w v) v] at e2
    have : φ (v, diff w v) = φ (diff w v, v) := by omega
    simp [asymG, this]
  have hn : nonD φ w = none := List.findSome?_eq_none_iff.mpr fun v hv' => List.findSome?_eq_none_iff.mpr fun u hu => by
    obtain ⟨p1, p2⟩ := prts_pair hw hv'
    have hwd : diff w v ∈ hps l := mem_hps.mpr ⟨p1.bw, p1.aw⟩
    have q1 := (prts_pair hwd hu).1
    have e1 := h _ (tri_one hw hv' hu).mem
    have e2 := h _ (tri_two hw hv' hu).mem
    have e3 := h _ q1.mem
    have e4 := h _ p1.mem
    dsimp only at e1 e2 e3 e4
    have hs := sums_le (mem_prts hu) (mem_prts hv')
    rw [sum_diff (mem_prts hu)] at e3
    rw [sum_diff (mem_prts hv')] at e4
    rw [← hs.2, sum_diff hs.1, hs.2] at e2
    have : φ (v, u) + φ (sums v u, diff (diff w v) u) = φ (u, diff (diff w v) u) + φ (v, diff w v) := by omega
    simp [nonG, this]
  rw [vioW, ha, hn]
  rfl
theorem smi_str (x : Str) (h : (pdD (.str x)).canLay0 = true ∧ (pdD (.str x)).showable = true ∧ (pdD (.str x)).leavesShort 64 = true ∧ (pdD (.str x)).weight ≤ 160 ∧ (pdD (.str x)).depth ≤ 3) : SmI (.str x) := ⟨rfl, h.1, h.2.1, h.2.2.1, h.2.2.2.1, h.2.2.2.2⟩
theorem smi_sym : SmI (.str "symmetry") := smi_str _ ⟨by decide +kernel, by decide +kernel, by decide +kernel, by decide +kernel, by decide +kernel⟩
theorem smi_ass : SmI (.str "associativity") := smi_str _ ⟨by decide +kernel, by decide +kernel, by decide +kernel, by decide +kernel, by decide +kernel⟩
theorem smi_heap {l v : List Int} (hx : Bx l) (h : Bel v l) : SmI (hv v) := (smi_hv (h.small hx.le) (by have := h.len; have := hx.ln; omega)).1
theorem rp_imm {M : List MO} {x : D} (h : x.imm = true) (hs : Sm (pdD x)) : Rp M x (pdD x).shown := .inl ⟨_, deep_imm M h, hs, rfl⟩
theorem vio_rp {l : List Int} {φ : Fe} (hx : Bx l) : ∃ r, ∀ M : List MO, Rp M ((vioD φ (hps l)).getD .non) r := by
  cases h : vioD φ (hps l) with
  | none => exact ⟨_, fun M => rp_imm rfl ⟨by decide +kernel, by decide +kernel, by decide +kernel, by decide +kernel, by decide +kernel⟩⟩
  | some r =>
    have hi : Sm (pdD r) := by
      obtain ⟨_, w, _, hl, e, _⟩ := List.findSome?_eq_some_iff.mp h
      have hw : w ∈ hps l := by rw [hl]; simp
      unfold vioW at e
      cases h2 : asymD φ w with
      | none =>
        rw [h2, Option.none_or] at e
        obtain ⟨_, v, _, hl1, e, _⟩ := List.findSome?_eq_some_iff.mp e
        have hv' : v ∈ prts w := by rw [hl1]; simp
        obtain ⟨_, u, _, hl2, e, _⟩ := List.findSome?_eq_some_iff.mp e
        have hu : u ∈ prts (diff w v) := by rw [hl2]; simp
        unfold nonG at e
        split at e
        · cases e
          refine (sm_tup (fun x hm => ?_) (by simp)).2
          have q3 := tri_one hw hv' hu
          have q4 := tri_two hw hv' hu
          simp only [List.mem_cons, List.not_mem_nil, or_false] at hm
          rcases hm with rfl | rfl | rfl | rfl
          · exact smi_ass
          · exact smi_heap hx q3.bv
          · exact smi_heap hx q3.bw
          · exact smi_heap hx q4.bw
        · cases e
      | some x =>
        rw [h2, Option.some_or] at e
        cases e
        obtain ⟨_, v, _, hl1, e, _⟩ := List.findSome?_eq_some_iff.mp h2
        have hv' : v ∈ prts w := by rw [hl1]; simp
        have pp := prts_pair hw hv'
        unfold asymG at e
        split at e
        · cases e
          refine (sm_tup (fun x hm => ?_) (by simp)).2
          simp only [List.mem_cons, List.not_mem_nil, or_false] at hm
          rcases hm with rfl | rfl | rfl
          · exact smi_sym
          · exact smi_heap hx pp.1.bv
          · exact smi_heap hx pp.1.bw
        · cases e
    exact ⟨_, fun M => rp_imm (vio_imm h) hi⟩
end PV
set_option Elab.async false
set_option linter.all false
set_option maxRecDepth 100000
set_option maxHeartbeats 2000000
namespace PV
open PySem
theorem perm_flat {α β : Type} {f g : α → List β} : ∀ {xs : List α}, (∀ a ∈ xs, (f a).Perm (g a)) → (xs.flatMap f).Perm (xs.flatMap g)
  | [], _ => .nil
  | a :: xs, h => by
    rw [List.flatMap_cons, List.flatMap_cons]
    exact (h a List.mem_cons_self).append (perm_flat fun c hc => h c (List.mem_cons_of_mem _ hc))
def hps0 (l : List Int) : List (List Int) := (vecs l).filter fun v => v.any (· != 0)
def prts0 (w : List Int) : List (List Int) := (hps0 w).filter fun v => decide (v ≠ w)
def prs0 (l : List Int) : List (List Int × List Int) := (hps0 l).flatMap fun w => (prts0 w).map fun v => (v, diff w v)
theorem hps_perm (l : List Int) : (hps l).Perm (hps0 l) := List.mergeSort_perm _ _
theorem prts_perm {w : List Int} (h0 : ∀ m ∈ w, 0 ≤ m) (h1 : w.any (· != 0) = true) : (prts w).Perm (prts0 w) := by
  rw [← prts_filter h0 h1]
  exact (hps_perm w).filter _
theorem prs_perm (l : List Int) : (prs l).Perm (prs0 l) := by
  refine (perm_flat fun w hw => ?_).trans ((hps_perm l).flatMap_right _)
  obtain ⟨bw, aw⟩ := mem_hps.mp hw
  exact (prts_perm bw.pos aw).map _
theorem hshs_perm {xs ys : List NestedKey} (h : xs.Perm ys) : ∀ {l : List Int}, hshs ys = some l → ∃ m, hshs xs = some m ∧ m.Perm l := by
  induction h with
  | nil => intro l e; exact ⟨l, e, .refl _⟩
  | cons x _ ih =>
    intro l e
    simp only [hshs] at e ⊢
    cases h1 : hsh x with
    | none => rw [h1] at e; cases e
    | some a =>
      rw [h1] at e
      rename_i l1 l2 _
      cases h2 : hshs l2 with
      | none => rw [h2] at e; cases e
      | some c =>
        rw [h2] at e
        cases e
        obtain ⟨m, e2, p⟩ := ih h2
        exact ⟨a :: m, by rw [e2], p.cons a⟩
  | swap x y l1 =>
    intro l e
    simp only [hshs] at e ⊢
    cases h1 : hsh x <;> cases h2 : hsh y <;> cases h3 : hshs l1 <;> rw [h1, h2, h3] at e <;> first | (cases e; done) | skip
    cases e
    exact ⟨_, rfl, .swap _ _ _⟩
  | trans _ _ ih1 ih2 =>
    intro l e
    obtain ⟨m, e2, p⟩ := ih2 e
    obtain ⟨m', e3, p'⟩ := ih1 e2
    exact ⟨m', e3, p'.trans p⟩
def hashB (l : List Int) : Bool := match hshs ((prs0 l).map fun p => kD (pv p)) with
  | some m => decide m.Nodup && !(prs0 l).isEmpty
  | none => false
theorem copy_fees {l : List Int} {φ : Fe} (h : hashB l = true) : copyK (feesD l φ) = some (1, feesD l φ) := by
  unfold hashB at h
  cases h0 : hshs ((prs0 l).map fun p => kD (pv p)) with
  | none => rw [h0] at h; cases h
  | some m =>
    rw [h0] at h
    simp only [Bool.and_eq_true, decide_eq_true_eq, Bool.not_eq_true'] at h
    obtain ⟨m', e3, pm⟩ := hshs_perm ((prs_perm l).map fun p => kD (pv p)) h0
    have hne : prs l ≠ [] := fun z => by
      have := (prs_perm l).length_eq
      rw [z] at this
      have h2 := h.2
      rw [List.length_nil] at this
      rw [List.eq_nil_of_length_eq_zero this.symm] at h2
      cases h2
    have e1 : (feesD l φ).isEmpty = false := by
      unfold feesD dOf
      rw [List.isEmpty_map]
      cases hp : prs l with
      | nil => exact absurd hp hne
      | cons _ _ => rfl
    have e2 : ((feesD l φ).any fun p => isTp p.1) = true := by
      cases hp : prs l with
      | nil => exact absurd hp hne
      | cons p r =>
        unfold feesD dOf
        rw [hp]
        rfl
    have e4 : hshs ((feesD l φ).map fun p => kD p.1) = some m' := by
      unfold feesD dOf
      rw [List.map_map]
      exact e3
    have e5 : m'.Nodup := pm.nodup_iff.mpr h.1
    unfold copyK
    rw [e1, e2, e4, Bool.or_true]
    simp only [if_true, if_false, Bool.false_eq_true, decide_eq_true e5]
theorem prs_ne {l : List Int} (h : hashB l = true) : 0 < (prs l).length := by
  rw [(prs_perm l).length_eq]
  unfold hashB at h
  split at h
  · simp only [Bool.and_eq_true, Bool.not_eq_true'] at h
    cases hp : prs0 l with
    | nil => rw [hp] at h; cases h.2
    | cons _ _ => simp
  · cases h
end PV
set_option Elab.async false
set_option linter.all false
set_option maxRecDepth 100000
set_option maxHeartbeats 2000000
namespace K14
open PySem PV
variable {b : List MO}
theorem kit : Kit Lx.pg := ⟨rfl, rfl, rfl, rfl, rfl, rfl, rfl, rfl, rfl, rfl, rfl, rfl, rfl⟩
theorem bkit : BKit Lx.pg := { kit with t1 := rfl, t3 := rfl, t4 := rfl, t7 := rfl, t8 := rfl, t21 := rfl, t22 := rfl, t23 := rfl, m21 := rfl, m22 := rfl, m23 := rfl, m24 := rfl, a21 := rfl, a22 := rfl, a23 := rfl, a24 := rfl, f1 := rfl, f2 := rfl, isc := rfl }
theorem vkit : VKit Lx.pg := { bkit with t24 := ⟨_, rfl⟩, t32 := rfl, t43 := rfl, t44 := rfl, t45 := rfl, t46 := rfl }
theorem lkit : LKit Lx.pg := ⟨rfl, rfl, rfl, rfl, rfl, rfl, rfl⟩
variable {k : Nat} {s : HS b} {Q : PV.D → HS b → Prop} {E : XW b} {L : OL} {l : List Int} {x y : Int} {pp i : Nat}
theorem fst_set {L : OL} {i p : Nat} {o o' : MO} (hi : L[i]? = some (p, o)) : (L.set i (p, o')).map (·.1) = L.map (·.1) := by
  rw [List.map_set]
  exact List.ext_getElem? fun j => by
    by_cases hj : j = i
    · subst hj
      rw [List.getElem?_set_self (by simpa using (List.getElem?_eq_some_iff.mp hi).1), List.getElem?_map, hi]
      rfl
    · rw [List.getElem?_set_ne (Ne.symm hj)]
def BXS : List PV.D := [hv [1], hv [2], hv [3], hv [4], hv [5], hv [1, 1], hv [2, 1], hv [1, 2], hv [2, 2], hv [3, 1], hv [1, 3], hv [1, 1, 1]]
def BXT : List PV.D := [hv [2, 1, 1], hv [1, 1, 2]]
def BXG : List PV.D := [hv [9], hv [4, 3], hv [2, 2, 2]]
theorem bxs_all : ∀ x ∈ BXS ++ BXT, ∃ l, x = hv l ∧ Bx l := by
  intro x hx
  simp only [BXS, BXT, List.cons_append, List.nil_append, List.mem_cons, List.not_mem_nil, or_false] at hx
  rcases hx with rfl | rfl | rfl | rfl | rfl | rfl | rfl | rfl | rfl | rfl | rfl | rfl | rfl | rfl <;> exact ⟨_, rfl, bx_of (by decide +kernel)⟩
theorem bxg_all : ∀ x ∈ BXG, ∃ l, x = hv l ∧ Bx l ∧ (l = [9] ∨ l = [4, 3] ∨ l = [2, 2, 2]) := by
  intro x hx
  simp only [BXG, List.mem_cons, List.not_mem_nil, or_false] at hx
  rcases hx with rfl | rfl | rfl <;> exact ⟨_, rfl, bx_of (by decide +kernel), by decide⟩
theorem w_book {X : Cur} {e : PV.Env} {i1 i2 ep fq : Nat} {φ : Fe} (hx : Bx l) (H : Has s L) (hf : L[i]? = some (fq, .dct ep (feesD l φ))) (h1 : e[i1]? = some (some (hv l))) (h2 : e[i2]? = some (some (.ref fq))) (q : ∀ S bk fq' ep', BkAt S.M bk l φ → Has S ((fq', .dct ep' (feesD l φ)) :: (bk, .ins "Book" (bkF l fq')) :: L) → Q (.ref bk) S) : W (evE (Lx.pg.ev (k + 6)) X (.new "Book" [.var i1, .var i2] [] []) e s) Q E := by
  refine w_new (f := 20) (r := ⟨["self", "box", "fees"], 3, []⟩) rfl rfl ?_
  refine w_cons (w_var h1 (w_cons (w_var h2 (w_nil (w_nil ?_)))))
  refine k_al H fun bk S H1 => ?_
  refine x_arr (zs := [.ref bk, hv l, .ref fq]) rfl ?_
  refine w_cf ?_
  refine bkit.init (k := k) (i := i) rfl hx H1 hf fun S fq' ep' H2 => ⟨rfl, ?_⟩
  exact q S bk fq' ep' ⟨hx, fq', ep', H2.get (i := 1) rfl, H2.get (i := 0) rfl⟩ H2
theorem w_lbox (H : Has s L) (hi : L[i]? = some (pp, .lst true [.int x, .int y])) (q : ∀ l x' y' S, Bx l → Has S (L.set i (pp, .lst true [.int x', .int y'])) → Q (hv l) S) : W (callF Lx.pg (k + 2) 1014 [.ref pp] s) Q E := by
  refine W_call (d := ⟨1, 2, b1014⟩) rfl rfl ?_
  walk_at "w0"
  unfold b1014
  walk_at "kqq"
  refine k_al H.start fun q1 S1 H1 => ?_
  walk_at "kqq"
  refine k_al H1 fun q2 S2 H2 => ?_
  refine a_addL (H2.get (i := 1) rfl) (H2.get (i := 0) rfl) (by simp) ?_
  refine k_al H2 fun q3 S3 H3 => ?_
  walk_at "kqq"
  refine k_draw (k := k) lkit.draw H3 (i := i + 3) (by simpa using hi) (by decide) (by decide) fun v x' y' S4 v0 v1 H4 => ?_
  obtain ⟨z, hz, hz2⟩ := atI_lt (xs := BXS ++ BXT) v0 (by simpa [BXS, BXT] using v1)
  refine w_ixr (H4.get (i := 0) rfl) hz ?_
  obtain ⟨l, rfl, hb⟩ := bxs_all z (List.mem_iff_getElem?.mpr ⟨_, hz2⟩)
  exact h_imm H H4 (L' := L.set i (pp, .lst true [.int x', .int y'])) (by simp only [List.set_cons_succ]; walk_at "ssl") (fst_set hi) (hv_imm l) fun S H => q l x' y' S hb H
theorem hash_ok (h : l = [9] ∨ l = [4, 3] ∨ l = [2, 2, 2]) : hashB l = true := by
  rcases h with rfl | rfl | rfl <;> decide +kernel
theorem w_great (H : Has s L) (hi : L[i]? = some (pp, .lst true [.int x, .int y])) (q : ∀ S x' y', Has S (L.set i (pp, .lst true [.int x', .int y'])) → Q (.bl true) S) : W (callF Lx.pg (k + 12) 1040 [.ref pp] s) Q E := by
  refine W_call (d := ⟨1, 7, b1040⟩) rfl rfl ?_
  walk_at "w0"
  unfold b1040
  walk_at "kqq"
  refine k_al H.start fun q1 S1 H1 => ?_
  walk_at "kqq"
  refine k_draw (k := k + 10) lkit.draw H1 (i := i + 1) (by simpa using hi) (by decide) (by decide) fun v x1 y1 S2 v0 v1 H2 => ?_
  obtain ⟨z, hz, hz2⟩ := atI_lt (xs := BXG) v0 (by simpa [BXG] using v1)
  refine w_ixr (H2.get (i := 0) rfl) hz ?_
  obtain ⟨l, rfl, hb, hl⟩ := bxg_all z (List.mem_iff_getElem?.mpr ⟨_, hz2⟩)
  have H2' : Has S2 (L.set i (pp, .lst true [.int x1, .int y1])) := H2.sub (by simp only [List.set_cons_succ]; walk_at "ssl")
  walk_at "kqq"
  refine w_lfees (k := k + 7) lkit rfl rfl hb H2' (get_set hi) (by decide) (by decide) fun φ x2 y2 fq ep S3 hd H3 => ?_
  rw [set_set] at H3
  obtain ⟨g, hg⟩ := hd rfl
  walk_at "kqq"
  refine lkit.kpairs (k := k + 8) hb ?_
  refine k_al H3 fun pq S4 H4 => ?_
  walk_at "kqq"
  refine w_len (ys := (prs l).map pv) (by simp only [items, H4.get (i := 0) rfl]) ?_
  rw [List.length_map]
  have hpt := prs_tot hb
  have hpos : 0 < (prs l).length := prs_ne (hash_ok hl)
  walk_at "kqq"
  refine k_draw (k := k + 10) lkit.draw H4 (i := i + 2) (by simpa using get_set hi) (by omega) (by omega) fun v' x3 y3 S5 v0' v1' H5 => ?_
  simp only [List.set_cons_succ, set_set] at H5
  obtain ⟨z', hz', hz2'⟩ := atI_lt (xs := (prs l).map pv) v0' (by simpa using v1')
  refine w_ixr (H5.get (i := 0) rfl) hz' ?_
  rw [List.getElem?_map] at hz2'
  cases hza : (prs l)[v'.toNat]? with
  | none => rw [hza] at hz2'; cases hz2'
  | some a =>
    rw [hza] at hz2'
    cases hz2'
    have ham := List.mem_of_getElem? hza
    have hp := pair_in ham hb.pos
    refine x_bindT (ds := [hv a.1, hv a.2]) rfl ?_
    walk_at "kqq"
    refine a_dictD (H5.get (i := 1) rfl) (copy_fees (hash_ok hl)) (by simp [dOf]; omega) ?_
    refine k_al H5 fun bq S6 H6 => ?_
    walk_at "kqq"
    refine w_ixf (P := Lx.pg.ev 0) (H6.get (i := 2) rfl) hp ?_
    walk_at "kqq"
    refine ks_in (kd := pv) (a := a) H6 (i := 0) rfl kinj_pv (kOk_pv a) (by omega) (nodup_prs hb.pos) ham fun ep3 S8 H8 => ?_
    rw [upF_int] at H8
    generalize hφ2 : upF φ a _ = φ2 at H8
    walk_at "kqq"
    refine w_book (k := k + 5) (i := 2) hb H8 rfl rfl rfl fun S9 bk fq9 ep9 hbk H9 => ?_
    walk_at "kqq"
    refine vkit.first (k := k + 2) hbk ?_
    rw [deriv_none hb.pos hg]
    walk_at "kqq"
    refine w_isnN ?_
    show TT _ (.bl false) _
    walk_at "kqq"
    refine w_book (k := k + 5) (i := 2) hb H9 rfl rfl rfl fun S10 bk2 fq10 ep10 hbk2 H10 => ?_
    walk_at "kqq"
    refine vkit.first (k := k + 2) hbk2 ?_
    obtain ⟨rr, hr⟩ := vio_rp (φ := φ2) hb
    refine w_rp (hr _) ?_
    walk_at "kqq"
    refine w_broken (k := k + 7) lkit rfl rfl hb (H10.get (i := 4) rfl) ?_
    refine w_rp (hr _) ?_
    refine w_eqD (eqD_self (a := .str rr) rfl rfl (hr S10.M).pl (by decide)) ?_
    walk_at "kqq"
    exact h_imm H H10 (L' := L.set i (pp, .lst true [.int x3, .int y3])) (by walk_at "ssl") (fst_set hi) rfl fun S H => q S x3 y3 H
theorem law_ok (ns : List Int) (hns : ns.length ≤ 63) (s : HS b) (H00 : Has s [(0, .lst false (ns.map PV.D.int))]) : W (callF Lx.pg 20 1008 [.ref 0] s) (fun d _ => d = .bl true) X0 := by
  refine W_call (d := ⟨1, 7, b1008⟩) rfl rfl ?_
  walk_at "w0"
  unfold b1008
  walk_at "kqq"
  refine k_hand (k := 18) lkit.hand (H00.start.get (i := 0) rfl) (by omega) fun a c => ?_
  refine k_al H00.start fun pp S1 H1 => ?_
  walk_at "kqq"
  refine w_great (k := 7) H1 (i := 0) rfl fun S2 x' y' H2' => ?_
  have H2 : Has S2 [(0, .lst false (ns.map PV.D.int))] := H2'.sub (by walk_at "ssl")
  walk_at "kqq"
  refine w_len (ys := ns.map PV.D.int) (by simp only [items, H2.get (i := 0) rfl]) ?_
  walk_at "kqq"
  obtain ⟨m, hm, hm0, hm1⟩ : ∃ m : Int, m = (if (if (16 : Int) < ((ns.map PV.D.int).length : Int) then (16 : Int) else ((ns.map PV.D.int).length : Int)) > 2 then (if (16 : Int) < ((ns.map PV.D.int).length : Int) then (16 : Int) else ((ns.map PV.D.int).length : Int)) else 2) ∧ 0 ≤ m ∧ m ≤ 1000 := by
    refine ⟨_, rfl, ?_, ?_⟩ <;> (repeat' split) <;> omega
  rw [← hm]
  refine w_srcR (by omega) (by omega) ?_
  refine z_rng (fun _ e' s' => Has s' [(0, .lst false (ns.map PV.D.int))] ∧ ∃ x1 x2 x3 x4 x5 x6, e' = [some (.ref 0), x1, x2, x3, x4, x5, x6]) ⟨H2, _, _, _, _, _, _, rfl⟩ (by
    have : m.toNat ≤ 1000 := by omega
    exact Nat.lt_of_le_of_lt this (by show 1000 < 1000000; decide)) (fun i e1 s1 hi h => ?_) (fun e1 s1 h => ?_)
  · obtain ⟨H, x1, x2, x3, x4, x5, x6, rfl⟩ := h
    dsimp only [Tg.bind]
    walk_at "kqq"
    refine k_hand (k := 18) lkit.hand (H.get (i := 0) rfl) (by omega) fun a c => ?_
    refine k_al H fun pp S1 H1 => ?_
    walk_at "kqq"
    refine w_lbox (k := 17) H1 (i := 0) rfl fun l x1 y1 S2 hb H2 => ?_
    walk_at "kqq"
    refine k_draw (k := 18) lkit.draw H2 (i := 0) rfl (by decide) (by decide) fun v x2 y2 S3 v0 v1 H3 => ?_
    walk_at "kqq"
    refine w_lfees (k := 15) lkit rfl rfl hb H3 (i := 0) rfl v0 (by omega) fun φ x3 y3 fq ep S4 _ H4 => ?_
    walk_at "kqq"
    refine w_book (k := 13) (i := 0) hb H4 rfl rfl rfl fun S5 bk fq5 ep5 hbk H5 => ?_
    walk_at "kqq"
    refine w_broken (k := 15) lkit rfl rfl hb (H5.get (i := 2) rfl) ?_
    obtain ⟨rr, hr⟩ := vio_rp (φ := φ) hb
    refine w_rp (hr _) ?_
    walk_at "kqq"
    refine vkit.first (k := 10) hbk ?_
    refine w_rp (hr _) ?_
    refine w_neD (eqD_self (a := .str rr) rfl rfl (hr S5.M).pl (by decide)) ?_
    walk_at "kqq"
    refine w_callk (a := ⟨["book"], 1, []⟩) rfl ?_
    walk_at "kqq"
    refine x_arr (zs := [.ref bk]) rfl ?_
    walk_at "kqq"
    refine vkit.first (k := 10) hbk ?_
    refine w_rp (hr _) ?_
    refine w_neD (eqD_self (a := .str rr) rfl rfl (hr S5.M).pl (by decide)) ?_
    walk_at "kqq"
    exact ⟨H5.sub (by walk_at "ssl"), _, _, _, _, _, _, rfl⟩
  · walk_at "kqq"
    exact fin_true
theorem ev (ns : List Int) (hns : ns.length ≤ 63) : ∃ s, callF Lx.pg 20 1008 [.ref 0] (HS.start [.lst false (ns.map PV.D.int)]) = some (.ok (.bl true) s) := ev_of fun s H => law_ok ns hns s H
end K14
set_option Elab.async false
set_option linter.all false
set_option maxRecDepth 100000
set_option maxHeartbeats 0
namespace K14
open PySem PySem.Spec PyProof.Rows L2 PV
theorem hty : ∀ p ∈ Lx.isx, typeOf (.type p.2.2) = pure (.type "type") := by
  intro p hp
  cases hp
end K14
open PySem PySem.W PySem.Calls PyProof.Rows
theorem PySem.Challenge.cw_partingfees_k14_first_violation_holds : PySem.Challenge.rw_partingfees_k14_first_violation.Holds := by
  w_on; o_law
  refine HandSHeadRun.head_any (r := OpenLaw.row PySem.Challenge.rw_partingfees_k14_first_violation) (q := view (OpenLaw.row PySem.Challenge.rw_partingfees_k14_first_violation).prog [46]) (H := K14.Lx.hook 6) (ob := K14.Lx.ob 6) (M := 4000) (loose := K14.loose) (d := HandSHeadRun.topDef (OpenLaw.row PySem.Challenge.rw_partingfees_k14_first_violation).prog 46) (kwd := []) (K14.Lx.ob_eq 6)
    (by kernel_rfl) (fun s => by kernel_rfl) K14.run (by kernel_rfl) (by kernel_rfl) (by kernel_rfl) (by rfl) (by first | assumption | decide +kernel) (by decide +kernel) ⟨rfl, rfl, rfl, rfl, rfl, by decide +kernel⟩ ?hw ?hc
  case hw => w_witness2
  case hc => exact PV.Lw.walk (L := K14.Lx) (n := 63) (f := 1008) (k := 20) (x := "_law_script") (p := (K14.d1008, K14.b1008)) K14.chk_ok K14.hty rfl (by decide) (by kernel_rfl) ⟨rfl, by decide, by decide⟩ rfl rfl rfl rfl rfl (by kernel_rfl) fun ns h _ => K14.ev ns h
