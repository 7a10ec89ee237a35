import PyProof.Rows.All
import Wide.All
import OpenK.AllK
import Wide.FinOn
import HandS.ForMost
import KE.KDictKeyed
import KE.KDictWalk
import HandS.Lambda
import HandS.TupAny
import HandS.IsInst
import KE.KDictCopyH
import KE.KSortedM
import HandS.TupLe
import HandS.Zip
import HandS.DictTup
import HandS.DictComp
import HandS.SortInts
import HandS.Style
import PyProof.AutoSeq1
import PyProof.Rows.SeqMore
import HandS.More
import HandS.Defaults
import KE.KDictPairs
import KE.SortKeyHeap
import KE.SortUse
import HandS.SortKw
import HandS.Words
import KE.KStateDown
import KE.KNestM
import HandS.Ends
import HandS.WordsExc
import HandS.Head0
import HandS.Head1
import HandS.Head2
import HandS.HeadEnd
import HandS.HeadHook1
import HandS.HeadHook2
import HandS.HeadWalk
import PySem.Challenge.RW_grovehouse_k67_whole_lattice_of_terms
set_option Elab.async false
section
set_option Elab.async false
set_option linter.all false
set_option maxRecDepth 100000
/-! Dicts with keys of any mixture: whole numbers, texts, None, bools, tuples of such to depth 8. By values. -/
namespace Gh
open PySem PySem.Spec PyProof.Rows L2
open Sem (wp)

abbrev Ent := NestedKey × Value × Value
def ent (w : World) (x : Ent) : DictEntry := ⟨x.1.hash w, x.2.1, x.2.2⟩

/-- a key that stands in the heap h as the value v -/
def KeyIs (h : Heap) (k : NestedKey) (v : Value) : Prop := NestedIs h k v ∧ k.depth ≤ 8

section
variable {prog : Program} {w : World} {A : Around} {E : Value → Shared → Prop} {s : Shared}

theorem quiet_v {k : NestedKey} {v : Value} {Q : Bool → Shared → Prop} (hk : KeyIs s.heap k v) (h : Q true s) : wpAny (model prog w) A (eqIsQuiet 8 v) Q E s :=
  quiet_key k _ 8 s hk.1 hk.2 A E Q h

theorem tells_not {k : NestedKey} {v : Value} {stored : List Value} {Q : Bool → Shared → Prop} (hk : KeyIs s.heap k v) (hst : ∀ u ∈ stored, ∃ j, KeyIs s.heap j u) (h : Q false s) :
    wpAny (model prog w) A (tableMayTell v stored) Q E s := by
  unfold tableMayTell
  split
  · exact wpAny_pure h
  · refine wpAny_bind (quiet_v hk ?_)
    simp only [Bool.not_true, Bool.false_eq_true, if_false]
    refine wpAny_bind ?_
    refine wpAny_forIn_list _ (fun rest r s' => s' = s ∧ r = (none, ()) ∧ ∀ u ∈ rest, ∃ j, KeyIs s.heap j u) _ ?_ ?_ _ _ ⟨rfl, rfl, hst⟩
    · rintro x rest r s' ⟨rfl, rfl, hr⟩
      obtain ⟨j, hj⟩ := hr x List.mem_cons_self
      refine wpAny_bind (quiet_v hj ?_)
      simp only [Bool.not_true, Bool.false_eq_true, if_false]
      exact wpAny_pure ⟨rfl, rfl, fun u hu => hr u (List.mem_cons_of_mem _ hu)⟩
    · rintro r s' ⟨rfl, rfl, _⟩
      exact wpAny_pure h

theorem eq_v {x y : NestedKey} {a b : Value} {Q : Bool → Shared → Prop} (hu : A.units + 8 < cLine) (hx : KeyIs s.heap x a) (hy : KeyIs s.heap y b) (h : Q (decide (x = y)) s) : wpAny (model prog w) A (PySem.eqBool a b) Q E s :=
  eqAt_key x y A s _ _ hx.1 hy.1 (by have := hx.2; omega) _ _ _ _ (by rw [← NestedKey.decide_eq]; exact h)

theorem hash_v {k : NestedKey} {v : Value} {Q : Int → Shared → Prop} (hu : A.units + 8 < cLine) (hk : KeyIs s.heap k v) (h : Q (k.hash w) { s with toks := s.toks + k.draws }) : wpAny (model prog w) A (PySem.pyHash v) Q E s :=
  pyHash_key k v A s Q hk.1 (by have := hk.2; omega) h

/-- what is known of a dict's table -/
structure Tab (w : World) (h : Heap) (es : Array DictEntry) (ys : List Ent) : Prop where
  es : es.toList = ys.map (ent w)
  keys : ∀ y ∈ ys, KeyIs h y.1 y.2.1
  nd : (ys.map (·.1)).Nodup

theorem Tab.get {h : Heap} {es : Array DictEntry} {ys : List Ent} (T : Tab w h es ys) (j : Nat) : es[j]? = (ys[j]?).map (ent w) := by
  rw [← Array.getElem?_toList, T.es, List.getElem?_map]
theorem Tab.size {h : Heap} {es : Array DictEntry} {ys : List Ent} (T : Tab w h es ys) : es.size = ys.length := by
  rw [← Array.length_toList, T.es, List.length_map]
theorem Tab.mem {h : Heap} {es : Array DictEntry} {ys : List Ent} (T : Tab w h es ys) {e : DictEntry} (he : e ∈ es) : ∃ y ∈ ys, e = ent w y := by
  have : e ∈ ys.map (ent w) := T.es ▸ Array.mem_toList_iff.mpr he
  obtain ⟨y, hy, rfl⟩ := List.mem_map.mp this
  exact ⟨y, hy, rfl⟩
theorem Tab.one {h : Heap} {es : Array DictEntry} {ys : List Ent} (T : Tab w h es ys) {i j : Nat} {k : NestedKey} {p q : Value × Value} (hi : ys[i]? = some (k, p)) (hj : ys[j]? = some (k, q)) : i = j := by
  have hi' : (ys.map (·.1))[i]? = some k := by rw [List.getElem?_map, hi]; rfl
  have hj' : (ys.map (·.1))[j]? = some k := by rw [List.getElem?_map, hj]; rfl
  exact (List.getElem?_inj (List.getElem?_eq_some_iff.mp hi').1 T.nd).mp (hi'.trans hj'.symm)
theorem Tab.hash_at {h : Heap} {es : Array DictEntry} {ys : List Ent} (T : Tab w h es ys) {j : Nat} {k : NestedKey} {p : Value × Value} (hj : ys[j]? = some (k, p)) : ((es[j]?.map (·.hash)) == some (k.hash w)) = true := by
  rw [T.get j, hj]
  simp [ent]

/-- the walk over the places of one hash, where every key is carried by value -/
theorem walk_plain {d : Addr} {o : Obj} {es : Array DictEntry} {ep : Nat} {ys : List Ent} {k : NestedKey} {key : Value} {Q : Option Nat → Shared → Prop} (hu : A.units + 8 < cLine) (hk : KeyIs s.heap k key)
    (ho : s.heap.get? d = some o) (hd : o.data = .dict es ep) (T : Tab w s.heap es ys)
    (hnone : (∀ (j : Nat) (p : Value × Value), ys[j]? ≠ some (k, p)) → Q none s) (hsome : ∀ (j : Nat) (p : Value × Value), ys[j]? = some (k, p) → Q (some j) s) :
    wpAny (model prog w) A (dictWalkPlain d key (k.hash w) es (placesWithHash es.size (fun i => es[i]?.map (·.hash)) (k.hash w))) Q E s := by
  have hsz := T.size
  unfold dictWalkPlain
  refine wpAny_bind ?_
  refine wpAny_forIn_list _
    (fun rest b s' => s' = s ∧ b = (none, ()) ∧ ∃ i, rest = (List.range' i (es.size - i)).filter (fun i => (es[i]?.map (·.hash)) == some (k.hash w)) ∧ i ≤ es.size ∧
      ∀ j p, j < i → ys[j]? ≠ some (k, p)) _ ?_ ?_ _ _
    ⟨rfl, rfl, 0, by rw [placesWithHash, List.range_eq_range', Nat.sub_zero], Nat.zero_le _, fun _ _ h => absurd h (Nat.not_lt_zero _)⟩
  · rintro x rest b s' ⟨rfl, rfl, i, hr, hi, hno⟩
    obtain ⟨hix, hxn, hpx, hskip, hrest⟩ := filter_range'_cons _ _ _ _ _ hr.symm
    have hlt : x < es.size := by omega
    have hrest' : rest = (List.range' (x + 1) (es.size - (x + 1))).filter (fun i => (es[i]?.map (·.hash)) == some (k.hash w)) := by rw [hrest]; congr 2; omega
    obtain ⟨⟨k', kv, v'⟩, hkv⟩ : ∃ y, ys[x]? = some y := ⟨ys[x]'(by rw [← hsz]; exact hlt), List.getElem?_eq_getElem _⟩
    have hex : es[x]? = some ⟨k'.hash w, kv, v'⟩ := by rw [T.get x, hkv]; rfl
    have hib : KeyIs s'.heap k' kv := T.keys _ (List.mem_of_getElem? hkv)
    have hbefore : ∀ j p, j < x → ys[j]? ≠ some (k, p) := fun j p hjx hj => by
      rcases Nat.lt_or_ge j i with h | h
      · exact hno j p h hj
      · have := hskip j h hjx
        rw [T.hash_at hj] at this
        exact absurd this (by decide)
    have hstay : ¬ k' = k → ∀ j p, j < x + 1 → ys[j]? ≠ some (k, p) := fun hne j p hjx hj => by
      rcases Nat.lt_or_ge j x with h | h
      · exact hbefore j p h hj
      · have e : j = x := by omega
        subst e
        rw [hkv] at hj
        injection hj with hj
        injection hj with hj
        exact hne hj
    rw [hex]
    dsimp only
    by_cases hh : (k'.hash w == k.hash w) = true
    · rw [if_pos hh]
      refine wpAny_bind (wpAny_dictEpoch ho hd (wpAny_bind (eq_v hu hib hk (wpAny_bind (wpAny_dictEpoch ho hd ?_)))))
      show wpAny _ _ (if (ep != ep) = true then _ else _) _ E _
      rw [if_neg (by simp)]
      by_cases hkk : k' = k
      · rw [decide_eq_true hkk]
        subst hkk
        exact wpAny_bind (wpAny_rule (wpAny_pure (wpAny_pure (hsome x _ hkv))))
      · rw [decide_eq_false hkk]
        exact wpAny_bind (wpAny_rule (wpAny_pure ⟨rfl, rfl, x + 1, hrest', hlt, hstay hkk⟩))
    · rw [if_neg hh]
      refine wpAny_pure ⟨rfl, rfl, x + 1, hrest', hlt, hstay ?_⟩
      intro hkk
      rw [hkk] at hh
      simp at hh
  · rintro b s' ⟨rfl, rfl, i, hr, hi, hno⟩
    refine wpAny_pure (hnone fun j p hj => ?_)
    rcases Nat.lt_or_ge j i with h | h
    · exact hno j p h hj
    · have hjl : j < es.size := by
        rw [hsz]
        rcases Nat.lt_or_ge j ys.length with h' | h'
        · exact h'
        · rw [List.getElem?_eq_none h'] at hj
          exact nomatch hj
      have := List.filter_eq_nil_iff.mp hr.symm j (List.mem_range'_1.mpr ⟨h, by omega⟩)
      exact this (T.hash_at hj)

theorem isStr_key {h : Heap} {x : Str} {k : NestedKey} {v : Value} (hk : KeyIs h k v) : v.isStr x = decide (k = .text x) := by
  obtain ⟨hk, _⟩ := hk
  cases hk with
  | none => simp [Value.isStr]
  | bool e => simp [Value.isStr]
  | int i t => simp [Value.isStr]
  | text y t =>
    by_cases e : y = x
    · subst e
      simp [Value.isStr]
    · have e2 : ¬ (NestedKey.text y = NestedKey.text x) := fun q => e (NestedKey.text.inj q)
      rw [decide_eq_false e2]
      simp [Value.isStr, e]
  | tup h1 h2 h3 h4 => simp [Value.isStr]

theorem by_value {d : Addr} {o : Obj} {es : Array DictEntry} {ep : Nat} {ys : List Ent} {x : Str} {t : Tok} {Q : Option Nat → Shared → Prop} (hu : A.units + 8 < cLine)
    (ho : s.heap.get? d = some o) (hd : o.data = .dict es ep) (T : Tab w s.heap es ys)
    (hnone : (∀ (j : Nat) (p : Value × Value), ys[j]? ≠ some (NestedKey.text x, p)) → Q none s) (hsome : ∀ (j : Nat) (p : Value × Value), ys[j]? = some (NestedKey.text x, p) → Q (some j) s) :
    wpAny (model prog w) A (foundByValue d (.str x t) es x) Q E s := by
  have hk : KeyIs s.heap (.text x) (.str x t) := ⟨.text x t, Nat.zero_le _⟩
  have hfi : ∀ (j : Nat) (hj : j < es.size) (y : Ent), ys[j]? = some y → es[j].key.isStr x = decide (y.1 = .text x) := fun j hj y hy => by
    have e : es[j]? = some (ent w y) := by rw [T.get j, hy]; rfl
    rw [Array.getElem?_eq_getElem hj] at e
    have e' : es[j] = ent w y := Option.some.inj e
    rw [e']
    exact isStr_key (T.keys y (List.mem_of_getElem? hy))
  unfold foundByValue
  cases hf : es.findIdx? (fun e => e.key.isStr x) with
  | none =>
    refine wpAny_pure (hnone fun j p hj => ?_)
    have hjl : j < es.size := by
      rw [T.size]
      exact (List.getElem?_eq_some_iff.mp hj).1
    have q := Array.findIdx?_eq_none_iff.mp hf es[j] (Array.getElem_mem hjl)
    rw [hfi j hjl _ hj] at q
    simp at q
  | some i =>
    obtain ⟨hlt, hi, _⟩ := Array.findIdx?_eq_some_iff_getElem.mp hf
    obtain ⟨⟨k', kv, v'⟩, hkv⟩ : ∃ y, ys[i]? = some y := ⟨ys[i]'(by rw [← T.size]; exact hlt), List.getElem?_eq_getElem _⟩
    rw [hfi i hlt _ hkv] at hi
    have e : k' = .text x := of_decide_eq_true hi
    subst e
    have hex : es[i]? = some ⟨NestedKey.hash w (.text x), kv, v'⟩ := by rw [T.get i, hkv]; rfl
    dsimp only
    rw [hex]
    dsimp only
    refine wpAny_bind (wpAny_dictEpoch ho hd (wpAny_bind (eq_v hu (T.keys _ (List.mem_of_getElem? hkv)) hk (wpAny_bind (wpAny_dictEpoch ho hd ?_)))))
    show wpAny _ _ (if (ep != ep) = true then _ else _) _ E _
    rw [if_neg (by simp), decide_eq_true rfl]
    exact wpAny_bind (wpAny_rule (wpAny_pure (hsome i _ hkv)))

theorem pass_if {α : Type} {M : Model} {Q : α → Shared → Prop} {c : Prop} [Decidable c] {a b : Sem α} (h1 : c → wpAny M A a Q E s) (h2 : ¬ c → wpAny M A b Q E s) : wpAny M A (if c then a else b) Q E s := by
  by_cases h : c
  · rw [if_pos h]
    exact h1 h
  · rw [if_neg h]
    exact h2 h

/-- the look-up, whatever keys stand there -/
theorem find_key {d : Addr} {o : Obj} {es : Array DictEntry} {ep : Nat} {ys : List Ent} {k : NestedKey} {key : Value} {Q : Option Nat → Shared → Prop} (hu : A.units + 8 < cLine) (hk : KeyIs s.heap k key)
    (ho : s.heap.get? d = some o) (hd : o.data = .dict es ep) (T : Tab w s.heap es ys)
    (hnone : (∀ (j : Nat) (p : Value × Value), ys[j]? ≠ some (k, p)) → Q none s) (hsome : ∀ (j : Nat) (p : Value × Value), ys[j]? = some (k, p) → Q (some j) s) :
    wpAny (model prog w) A (dictFind d key (k.hash w)) Q E s := by
  have hsz := T.size
  have hst : ∀ v ∈ (placesWithHash es.size (fun i => es[i]?.map (·.hash)) (k.hash w)).filterMap (fun i => es[i]?.map (·.key)), ∃ j, KeyIs s.heap j v := by
    intro v hv
    obtain ⟨i, _, hi⟩ := List.mem_filterMap.mp hv
    cases hei : es[i]? with
    | none => rw [hei] at hi; cases hi
    | some e =>
      rw [hei] at hi
      obtain rfl : e.key = v := by simpa using hi
      obtain ⟨y, hy, rfl⟩ := T.mem (Array.mem_of_getElem? hei)
      exact ⟨y.1, T.keys y hy⟩
  have hany : ∀ a, key = .ref a → ¬ (es.any fun e => e.key == Value.ref a && e.hash != k.hash w) = true := by
    intro a ha
    rw [← Array.any_toList, List.any_eq_true]
    rintro ⟨e, hin, hc⟩
    obtain ⟨y, hy, rfl⟩ := T.mem (Array.mem_toList_iff.mp hin)
    simp only [ent, Bool.and_eq_true, beq_iff_eq, bne_iff_ne, ne_eq] at hc
    obtain ⟨hxa, hne⟩ := hc
    have q := (T.keys y hy).1
    rw [hxa, ← ha] at q
    exact hne (by rw [NestedIs.inj _ _ _ q hk.1])
  have plain := walk_plain (prog := prog) (E := E) hu hk ho hd T hnone hsome
  have byv : ∀ x t, key = .str x t → wpAny (model prog w) A (foundByValue d key es x) Q E s := fun x t e => by
    subst e
    obtain rfl : k = .text x := by
      cases hk.1
      rfl
    exact by_value hu ho hd T hnone hsome
  have tells : ∀ Q' : Bool → Shared → Prop, Q' false s → wpAny (model prog w) A (tableMayTell key ((placesWithHash es.size (fun i => es[i]?.map (·.hash)) (k.hash w)).filterMap (fun i => es[i]?.map (·.key)))) Q' E s := fun Q' q => tells_not hk hst q
  obtain ⟨N, hN⟩ : ∃ N : Nat → Prop, ∀ j, N j ↔ ∃ p, ys[j]? = some (k, p) := ⟨fun j => ∃ p, ys[j]? = some (k, p), fun _ => Iff.rfl⟩
  have hA : ∀ j, N j → ((es[j]?.map (·.hash)) == some (k.hash w)) = true := fun j h => by
    obtain ⟨p, hp⟩ := (hN j).mp h
    exact T.hash_at hp
  have hB : ∀ i j, N i → N j → i = j := fun i j h1 h2 => by
    obtain ⟨p, hp⟩ := (hN i).mp h1
    obtain ⟨q, hq⟩ := (hN j).mp h2
    exact T.one hp hq
  have hC : ∀ j, N j → j < es.size := fun j h => by
    obtain ⟨p, hp⟩ := (hN j).mp h
    rw [hsz]
    exact (List.getElem?_eq_some_iff.mp hp).1
  have hF : (∀ j, ¬ N j) → Q none s := fun h => hnone fun j p hj => h j ((hN j).mpr ⟨p, hj⟩)
  have hG : ∀ j, N j → Q (some j) s := fun j h => by
    obtain ⟨p, hp⟩ := (hN j).mp h
    exact hsome j p hp
  have hE : ∀ x, x < es.size → ∃ hh kv v', es[x]? = some ⟨hh, kv, v'⟩ ∧ (hh ≠ k.hash w → ¬ N x) ∧ ∀ Q' : Bool → Shared → Prop, (N x → Q' true s) → (¬ N x → Q' false s) → wpAny (model prog w) A (PySem.eqBool kv key) Q' E s := fun x hx => by
    obtain ⟨⟨k', kv, v'⟩, hkv⟩ : ∃ y, ys[x]? = some y := ⟨ys[x]'(by rw [← hsz]; exact hx), List.getElem?_eq_getElem _⟩
    have hex : es[x]? = some ⟨k'.hash w, kv, v'⟩ := by rw [T.get x, hkv]; rfl
    refine ⟨_, kv, v', hex, fun hne hNx => ?_, fun Q' q1 q2 => ?_⟩
    · have q := hA x hNx
      rw [hex] at q
      simp at q
      exact hne q
    · refine eq_v hu (T.keys _ (List.mem_of_getElem? hkv)) hk ?_
      by_cases e : k' = k
      · rw [decide_eq_true e]
        exact q1 ((hN x).mpr ⟨_, e ▸ hkv⟩)
      · rw [decide_eq_false e]
        refine q2 fun h => ?_
        obtain ⟨p, hp⟩ := (hN x).mp h
        rw [hkv] at hp
        injection hp with hp
        injection hp with hp
        exact e hp
  clear hnone hsome hst hN
  generalize NestedKey.hash w k = hs at *
  unfold dictFind
  try with_reducible refine wpAny_holding ?_
  refine wpAny_bind (wpAny_dictEntries ho hd ?_)
  cases hk.1
  case' text x t =>
    refine pass_if (fun _ => byv _ _ rfl) fun _ => ?_
    refine pass_if (fun _ => plain) fun _ => ?_
  case' tup h1 h2 h3 h4 =>
    refine pass_if (fun _ => plain) fun _ => ?_
    refine pass_if (fun h => absurd h (hany _ rfl)) fun _ => ?_
  case' none => refine pass_if (fun _ => plain) fun _ => ?_
  case' bool => refine pass_if (fun _ => plain) fun _ => ?_
  case' int => refine pass_if (fun _ => plain) fun _ => ?_
  all_goals
    refine pass_if (fun _ => wpAny_bind (wpAny_pure ?_)) (fun _ => wpAny_bind (tells _ ?_))
  all_goals
    refine pass_if (fun h => absurd h (by simp)) fun _ => ?_
    refine wpAny_bind ?_
    refine wpAny_forIn_list _
      (fun rest b s' => s' = s ∧ ∃ i hit, b = (none, hit) ∧ rest = (List.range' i (es.size - i)).filter (fun i => (es[i]?.map (·.hash)) == some hs) ∧ i ≤ es.size ∧
        ((hit = none ∧ ∀ j, j < i → ¬ N j) ∨ ∃ j, hit = some j ∧ j < i ∧ N j)) _ ?_ ?_ _ _
      ⟨rfl, 0, none, rfl, by rw [placesWithHash, List.range_eq_range', Nat.sub_zero], Nat.zero_le _, .inl ⟨rfl, fun _ h => absurd h (Nat.not_lt_zero _)⟩⟩
    · rintro x rest b s' ⟨rfl, i, hit, rfl, hr, hi, hH⟩
      obtain ⟨hix, hxn, hpx, hskip, hrest⟩ := filter_range'_cons _ _ _ _ _ hr.symm
      have hlt : x < es.size := by omega
      have hrest' : rest = (List.range' (x + 1) (es.size - (x + 1))).filter (fun i => (es[i]?.map (·.hash)) == some hs) := by rw [hrest]; congr 2; omega
      obtain ⟨hh, kv, v', hex, hne, heq⟩ := hE x hlt
      have hHx : (hit = none ∧ ∀ j, j < x → ¬ N j) ∨ ∃ j, hit = some j ∧ j < x ∧ N j := by
        rcases hH with ⟨h0, hno⟩ | ⟨j, h1, hji, hj⟩
        · refine .inl ⟨h0, fun j hjx hj => ?_⟩
          rcases Nat.lt_or_ge j i with h | h
          · exact hno j h hj
          · have := hskip j h hjx
            rw [hA j hj] at this
            exact absurd this (by decide)
        · exact .inr ⟨j, h1, by omega, hj⟩
      have hstay : ¬ N x → ((hit = none ∧ ∀ j, j < x + 1 → ¬ N j) ∨ ∃ j, hit = some j ∧ j < x + 1 ∧ N j) := by
        intro hNx
        rcases hHx with ⟨h0, hno⟩ | ⟨j, h1, hjx, hj⟩
        · refine .inl ⟨h0, fun j hjx hj => ?_⟩
          rcases Nat.lt_or_ge j x with h | h
          · exact hno j h hj
          · have hjx' : j = x := by omega
            subst hjx'
            exact hNx hj
        · exact .inr ⟨j, h1, by omega, hj⟩
      rw [hex]
      refine pass_if (fun _ => ?_) fun hq => ?_
      · refine wpAny_bind (wpAny_dictEpoch ho hd (wpAny_bind (heq _ (fun hNx => wpAny_bind (wpAny_dictEpoch ho hd ?_)) (fun hNx => wpAny_bind (wpAny_dictEpoch ho hd ?_)))))
        · refine pass_if (fun h => absurd h (by simp)) fun _ => ?_
          refine pass_if (fun _ => ?_) fun h => absurd rfl h
          rcases hHx with ⟨rfl, _⟩ | ⟨j, _, hjx, hj⟩
          · refine pass_if (fun h => absurd h (by simp)) fun _ => ?_
            refine wpAny_bind (wpAny_rule ?_)
            refine pass_if (fun _ => ?_) fun _ => ?_
            · exact wpAny_pure (wpAny_pure (hG x hNx))
            · exact wpAny_pure ⟨rfl, x + 1, some x, rfl, hrest', hlt, .inr ⟨x, rfl, Nat.lt_succ_self x, hNx⟩⟩
          · exact absurd (hB _ _ hj hNx) (by omega)
        · refine pass_if (fun h => absurd h (by simp)) fun _ => ?_
          refine pass_if (fun h => nomatch h) fun _ => ?_
          refine wpAny_bind (wpAny_rule ?_)
          refine pass_if (fun h => absurd h (by simp)) fun _ => ?_
          exact wpAny_pure ⟨rfl, x + 1, hit, rfl, hrest', hlt, hstay hNx⟩
      · refine wpAny_pure ⟨rfl, x + 1, hit, rfl, hrest', hlt, hstay (hne fun e => hq ?_)⟩
        rw [e]
        simp
    · rintro b s' ⟨rfl, i, hit, rfl, hr, hi, hH⟩
      rcases hH with ⟨rfl, hno⟩ | ⟨j, rfl, _, hj⟩
      · refine wpAny_pure (hF fun j hj => ?_)
        rcases Nat.lt_or_ge j i with h | h
        · exact hno j h hj
        · have hjl := hC j hj
          have := List.filter_eq_nil_iff.mp hr.symm j (List.mem_range'_1.mpr ⟨h, by omega⟩)
          exact this (hA j hj)
      · exact wpAny_pure (hG j hj)
end
end Gh
end
section
set_option Elab.async false
set_option linter.all false
set_option maxRecDepth 100000
namespace Gh
open PySem PySem.Spec PyProof.Rows L2
open Sem (wp)

/-- the dict at a: its entries in order -/
def DAt (w : World) (a : Addr) (ys : List Ent) (h : Heap) : Prop := ∃ o es ep, h.get? a = some o ∧ o.ExactDict ∧ o.data = .dict es ep ∧ es.toList = ys.map (ent w)
/-- its keys are keys -/
def DKeys (h : Heap) (ys : List Ent) : Prop := (∀ y ∈ ys, KeyIs h y.1 y.2.1) ∧ (ys.map (·.1)).Nodup
def putV (k : NestedKey) (v : Value) (y : Ent) : Ent := if y.1 = k then (y.1, y.2.1, v) else y
def lookE (ys : List Ent) (k : NestedKey) : Option Value := (ys.find? fun y => decide (y.1 = k)).map (·.2.2)
def putE (ys : List Ent) (k : NestedKey) (kv v : Value) : List Ent := if (lookE ys k).isSome then ys.map (putV k v) else ys ++ [(k, kv, v)]

theorem lookE_get {ys : List Ent} (hn : (ys.map (·.1)).Nodup) {i : Nat} {k : NestedKey} {p : Value × Value} (hx : ys[i]? = some (k, p)) : lookE ys k = some p.2 := by
  induction ys generalizing i with
  | nil => simp at hx
  | cons y r ih =>
    rw [List.map_cons, List.nodup_cons] at hn
    cases i with
    | zero =>
      simp only [List.getElem?_cons_zero, Option.some.injEq] at hx
      subst hx
      simp [lookE]
    | succ j =>
      simp only [List.getElem?_cons_succ] at hx
      have hmem : k ∈ r.map (·.1) := List.mem_map.mpr ⟨(k, p), List.mem_of_getElem? hx, rfl⟩
      have hne : ¬ y.1 = k := fun e => hn.1 (e ▸ hmem)
      have := ih hn.2 hx
      simpa [lookE, List.find?_cons, hne] using this
theorem lookE_none {ys : List Ent} {k : NestedKey} (h : ∀ (j : Nat) (p : Value × Value), ys[j]? ≠ some (k, p)) : lookE ys k = none := by
  have : (ys.find? fun y => decide (y.1 = k)) = none := by
    rw [List.find?_eq_none]
    intro y hy hk
    obtain ⟨j, hj⟩ := List.mem_iff_getElem?.mp hy
    have hk' : y.1 = k := of_decide_eq_true hk
    exact h j y.2 (by rw [hj, ← hk'])
  simp [lookE, this]
theorem not_key {ys : List Ent} {k : NestedKey} (h : ∀ (j : Nat) (p : Value × Value), ys[j]? ≠ some (k, p)) : k ∉ ys.map (·.1) := by
  intro hm
  obtain ⟨y, hy, rfl⟩ := List.mem_map.mp hm
  obtain ⟨j, hj⟩ := List.mem_iff_getElem?.mp hy
  exact h j y.2 hj
theorem put_same (ys : List Ent) (k : NestedKey) (v : Value) (hn : k ∉ ys.map (·.1)) : ys.map (putV k v) = ys := by
  induction ys with
  | nil => rfl
  | cons y ys ih =>
    simp only [List.map_cons, List.mem_cons, not_or] at hn ⊢
    rw [putV, if_neg (fun e => hn.1 e.symm), ih hn.2]
theorem put_keys (ys : List Ent) (k : NestedKey) (v : Value) : (ys.map (putV k v)).map (·.1) = ys.map (·.1) := by
  induction ys with
  | nil => rfl
  | cons y ys ih =>
    simp only [List.map_cons, ih]
    by_cases hk : y.1 = k <;> simp [putV, hk]
theorem modify_put {w : World} (k : NestedKey) (v : Value) : ∀ {ys : List Ent} {j : Nat} {p : Value × Value}, (ys.map (·.1)).Nodup → ys[j]? = some (k, p) →
    (ys.map (ent w)).modify j (fun e => { e with val := v }) = (ys.map (putV k v)).map (ent w) := by
  intro ys
  induction ys with
  | nil => intro j p _ hj; simp at hj
  | cons y r ih =>
    intro j p hn hj
    rw [List.map_cons, List.nodup_cons] at hn
    cases j with
    | zero =>
      simp only [List.getElem?_cons_zero, Option.some.injEq] at hj
      subst hj
      rw [List.map_cons, List.map_cons, put_same r k v hn.1, putV, if_pos rfl, List.map_cons]
      rfl
    | succ j =>
      simp only [List.getElem?_cons_succ] at hj
      have hmem : k ∈ r.map (·.1) := List.mem_map.mpr ⟨(k, p), List.mem_of_getElem? hj, rfl⟩
      have hne : ¬ y.1 = k := fun e => hn.1 (e ▸ hmem)
      rw [List.map_cons, List.map_cons, putV, if_neg hne, List.map_cons]
      show ent w y :: (r.map (ent w)).modify j _ = ent w y :: (r.map (putV k v)).map (ent w)
      rw [ih hn.2 hj]

section
variable {prog : Program} {w : World} {A : Around} {E : Value → Shared → Prop} {s : Shared} {d : Addr} {ys : List Ent} {k : NestedKey} {kv : Value}

theorem DAt.typeIs (x : DAt w d ys s.heap) : s.TypeIs (.ref d) "dict" := let ⟨o, _, _, ho, hc, _⟩ := x; ⟨o, ho, hc.1⟩

theorem get_key {Q : Option Value → Shared → Prop} (hu : A.units + 8 < cLine) (hk : KeyIs s.heap k kv) (hm : DAt w d ys s.heap) (hK : DKeys s.heap ys)
    (h : Q (lookE ys k) { s with toks := s.toks + k.draws }) : wpAny (model prog w) A (dictGet d kv) Q E s := by
  obtain ⟨o, es, ep, ho, _, hd, he⟩ := hm
  unfold dictGet
  try with_reducible refine wpAny_holding ?_
  refine wpAny_bind (hash_v hu hk (wpAny_bind (find_key (s := { s with toks := s.toks + k.draws }) hu hk ho hd ⟨he, hK.1, hK.2⟩ ?_ ?_)))
  · intro hno
    rw [lookE_none hno] at h
    exact wpAny_pure h
  · intro j p hj
    rw [lookE_get hK.2 hj] at h
    refine wpAny_bind (wpAny_dictEntries (s := { s with toks := s.toks + k.draws }) ho hd ?_)
    rw [Tab.get ⟨he, hK.1, hK.2⟩ j, hj]
    exact wpAny_pure h

theorem set_key {v : Value} {Q : Unit → Shared → Prop} (hu : A.units + 8 < cLine) (hk : KeyIs s.heap k kv) (hm : DAt w d ys s.heap) (hK : DKeys s.heap ys) (hz : ys.length ≤ sizeLine)
    (h : ∀ h', DAt w d (putE ys k kv v) h' → Heap.SameBut d s.heap h' → Q () { s with heap := h', toks := s.toks + k.draws }) :
    wpAny (model prog w) A (dictSet d kv v) Q E s := by
  obtain ⟨o, es, ep, ho, hc, hd, he⟩ := hm
  have T : Tab w s.heap es ys := ⟨he, hK.1, hK.2⟩
  have hsz := T.size
  unfold dictSet
  try with_reducible refine wpAny_holding ?_
  refine wpAny_bind (hash_v hu hk ?_)
  unfold dictSetHashed
  try with_reducible refine wpAny_holding ?_
  refine wpAny_bind (find_key (s := { s with toks := s.toks + k.draws }) hu hk ho hd T ?_ ?_)
  · intro hno
    refine wpAny_bind (wpAny_rule (wpAny_updateDictKeys (hz := by omega) (s := { s with toks := s.toks + k.draws }) ho hd (h _ ⟨_, _, ep + 1, Heap.get?_update_self _ ho (Obj.isFreed_of_dict (Obj.data_mapDictKeys hd _)),
      hc.mapDictKeys _, Obj.data_mapDictKeys hd _, ?_⟩ (Heap.SameBut.update ..))))
    unfold putE
    rw [lookE_none hno]
    simp [he, ent]
  · intro j p hj
    refine wpAny_bind (wpAny_rule (wpAny_bind (wpAny_updateDict (s := { s with toks := s.toks + k.draws }) ho hd (wpAny_point (h _ ⟨_, _, ep, Heap.get?_update_self _ ho (Obj.isFreed_of_dict (Obj.data_mapDict hd _)),
      hc.mapDict _, Obj.data_mapDict hd _, ?_⟩ (Heap.SameBut.update ..))))))
    unfold putE
    rw [lookE_get hK.2 hj]
    have q := modify_put (w := w) k v hK.2 hj
    rw [← he] at q
    obtain ⟨l⟩ := es
    simpa using q

theorem setd_key {v : Value} {Q : Value → Shared → Prop} (hu : A.units + 8 < cLine) (hk : KeyIs s.heap k kv) (hm : DAt w d ys s.heap) (hK : DKeys s.heap ys) (hz : ys.length ≤ sizeLine)
    (h1 : ∀ u, lookE ys k = some u → Q u { s with toks := s.toks + k.draws })
    (h2 : lookE ys k = none → ∀ h', DAt w d (putE ys k kv v) h' → Heap.SameBut d s.heap h' → Q v { s with heap := h', toks := s.toks + k.draws }) :
    wpAny (model prog w) A (dictSetDefault d kv v) Q E s := by
  obtain ⟨o, es, ep, ho, hc, hd, he⟩ := hm
  have T : Tab w s.heap es ys := ⟨he, hK.1, hK.2⟩
  have hsz := T.size
  unfold dictSetDefault
  try with_reducible refine wpAny_holding ?_
  refine wpAny_bind (hash_v hu hk ?_)
  refine wpAny_bind (find_key (s := { s with toks := s.toks + k.draws }) hu hk ho hd T ?_ ?_)
  · intro hno
    refine wpAny_bind (wpAny_rule (wpAny_bind (wpAny_updateDictKeys (hz := by omega) (s := { s with toks := s.toks + k.draws }) ho hd (wpAny_pure (h2 (lookE_none hno) _ ⟨_, _, ep + 1, Heap.get?_update_self _ ho (Obj.isFreed_of_dict (Obj.data_mapDictKeys hd _)),
      hc.mapDictKeys _, Obj.data_mapDictKeys hd _, ?_⟩ (Heap.SameBut.update ..))))))
    unfold putE
    rw [lookE_none hno]
    simp [he, ent]
  · intro j p hj
    refine wpAny_bind (wpAny_dictEntries (s := { s with toks := s.toks + k.draws }) ho hd ?_)
    rw [T.get j, hj]
    exact wpAny_bind (wpAny_rule (wpAny_pure (h1 _ (lookE_get hK.2 hj))))

theorem contains_key {Q : Bool → Shared → Prop} (hu : A.in1.units + 8 < cLine) (hk : KeyIs s.heap k kv) (hd : (d == sysModules) = false) (hm : DAt w d ys s.heap) (hK : DKeys s.heap ys)
    (h : Q (lookE ys k).isSome { s with toks := s.toks + k.draws }) : wpAny (model prog w) A (contains (.ref d) kv) Q E s := by
  refine wpAny_contains_slot hm.typeIs F.slot_dict_contains ?_
  refine call_meetsIn F.slot_dict_contains hm.typeIs F.entry_dict_contains (F.args_dict_contains_2 _ _) (S := fun A' R s' => A' = A ∧ s' = s ∧ R (.ok (.ret (.bool (lookE ys k).isSome))) { s with toks := s.toks + k.draws }) (fun A' R s' hS => ?_) ⟨rfl, rfl, wpAny_truthy_bool h⟩
  obtain ⟨rfl, rfl, hq⟩ := hS
  show wpAny _ _ (dictGet d kv >>= _) _ _ _
  refine wpAny_bind (get_key hu hk hm hK ?_)
  cases hf : lookE ys k with
  | some p =>
    rw [hf] at hq
    show wpAny _ _ (ret (.bool true)) _ _ _
    exact wpAny_pure hq
  | none =>
    rw [hf] at hq
    show wpAny _ _ (Builtin.Dict.pendingKey? d kv >>= _) _ _ _
    exact wpAny_bind (wpAny_pendingKey_other hd (wpAny_pure hq))

theorem in_key {Q : Value → Shared → Prop} (hu : A.in1.units + 8 < cLine) (hk : KeyIs s.heap k kv) (hd : (d == sysModules) = false) (hm : DAt w d ys s.heap) (hK : DKeys s.heap ys)
    (h : Q (.bool (lookE ys k).isSome) { s with toks := s.toks + k.draws }) : wpAny (model prog w) A (compareOp .In kv (.ref d)) Q E s := by
  show wpAny _ _ (do return .bool (← contains (.ref d) kv)) Q E s
  exact wpAny_bind (contains_key hu hk hd hm hK (wpAny_pure h))
theorem notin_key {Q : Value → Shared → Prop} (hu : A.in1.units + 8 < cLine) (hk : KeyIs s.heap k kv) (hd : (d == sysModules) = false) (hm : DAt w d ys s.heap) (hK : DKeys s.heap ys)
    (h : Q (.bool (!(lookE ys k).isSome)) { s with toks := s.toks + k.draws }) : wpAny (model prog w) A (compareOp .NotIn kv (.ref d)) Q E s := by
  show wpAny _ _ (do return .bool (!(← contains (.ref d) kv))) Q E s
  exact wpAny_bind (contains_key hu hk hd hm hK (wpAny_pure h))

theorem item_key {v : Value} {Q : Value → Shared → Prop} (hu : A.in1.units + 8 < cLine) (hk : KeyIs s.heap k kv) (hm : DAt w d ys s.heap) (hK : DKeys s.heap ys) (hv : lookE ys k = some v)
    (h : Q v { s with toks := s.toks + k.draws }) : wpAny (model prog w) A (getItem (.ref d) kv) Q E s := by
  unfold getItem
  try with_reducible refine wpAny_holding ?_
  refine wpAny_bind (wpAny_sequenceKey hm.typeIs (by decide) ?_)
  refine wpAny_bind (wpAny_callSpecial?_slot (name := Str.ofString "__getitem__") hm.typeIs slot_dict_getitem
    (wpAny_call_entry slot_dict_getitem hm.typeIs entry_dict_getitem ?_ (args_dict_getitem _ _)))
  show wpAny _ _ (dictGet d kv >>= _) _ _ s
  refine wpAny_bind (get_key hu hk hm hK ?_)
  rw [hv]
  exact wpAny_pure ⟨v, rfl, wpAny_pure h⟩

theorem setitem_key {v : Value} {Q : Unit → Shared → Prop} (hu : A.in1.units + 8 < cLine) (hk : KeyIs s.heap k kv) (hm : DAt w d ys s.heap) (hK : DKeys s.heap ys) (hz : ys.length ≤ sizeLine)
    (h : ∀ h', DAt w d (putE ys k kv v) h' → Heap.SameBut d s.heap h' → Q () { s with heap := h', toks := s.toks + k.draws }) :
    wpAny (model prog w) A (setItem (.ref d) kv v) Q E s := by
  unfold setItem
  try with_reducible refine wpAny_holding ?_
  refine wpAny_bind (wpAny_sequenceKey hm.typeIs (by decide) ?_)
  refine wpAny_bind (wpAny_callSpecial?_slot (name := Str.ofString "__setitem__") hm.typeIs slot_dict_setitem
    (wpAny_call_entry slot_dict_setitem hm.typeIs entry_dict_setitem ?_ (args_dict_setitem _ _ _)))
  show wpAny _ _ (Builtin.Dict.notOrdered "__setitem__" ⟨[.ref d, kv, v], []⟩ >>= _) _ _ s
  refine wpAny_bind (wpAny_notOrdered_dict hm.typeIs ?_)
  show wpAny _ _ (dictSet d kv v >>= _) _ _ s
  exact wpAny_bind (set_key hu hk hm hK hz fun h' hm' hs' => wpAny_pure ⟨.none, rfl, wpAny_pure (h h' hm' hs')⟩)

theorem call_get2 {Q : Value → Shared → Prop} (hu : A.in1.units + 8 < cLine) (hk : KeyIs s.heap k kv) (hd : (d == sysModules) = false) (hm : DAt w d ys s.heap) (hK : DKeys s.heap ys)
    (h : Q ((lookE ys k).getD .none) { s with toks := s.toks + k.draws }) : wpAny (model prog w) A (call (.builtin "dict.get") [.ref d, kv]) Q E s := by
  refine call_meetsIn F.slot_dict_get hm.typeIs F.entry_dict_get (F.args_dict_get_2 _ _) (S := fun A' R s' => A' = A ∧ s' = s ∧ R (.ok (.ret ((lookE ys k).getD .none))) { s with toks := s.toks + k.draws }) (fun A' R s' hS => ?_) ⟨rfl, rfl, h⟩
  obtain ⟨rfl, rfl, hq⟩ := hS
  show wpAny _ _ (dictGet d kv >>= _) _ _ _
  refine wpAny_bind (get_key hu hk hm hK ?_)
  cases hf : lookE ys k with
  | some p =>
    rw [hf] at hq
    exact wpAny_pure hq
  | none =>
    rw [hf] at hq
    show wpAny _ _ (Builtin.Dict.missed d kv >>= _) _ _ _
    exact wpAny_bind (wpAny_missed_other hd (wpAny_pure hq))
theorem call_get3 {x : Value} {Q : Value → Shared → Prop} (hu : A.in1.units + 8 < cLine) (hk : KeyIs s.heap k kv) (hd : (d == sysModules) = false) (hm : DAt w d ys s.heap) (hK : DKeys s.heap ys)
    (h : Q ((lookE ys k).getD x) { s with toks := s.toks + k.draws }) : wpAny (model prog w) A (call (.builtin "dict.get") [.ref d, kv, x]) Q E s := by
  refine call_meetsIn F.slot_dict_get hm.typeIs F.entry_dict_get (F.args_dict_get_3 _ _ _) (S := fun A' R s' => A' = A ∧ s' = s ∧ R (.ok (.ret ((lookE ys k).getD x))) { s with toks := s.toks + k.draws }) (fun A' R s' hS => ?_) ⟨rfl, rfl, h⟩
  obtain ⟨rfl, rfl, hq⟩ := hS
  show wpAny _ _ (dictGet d kv >>= _) _ _ _
  refine wpAny_bind (get_key hu hk hm hK ?_)
  cases hf : lookE ys k with
  | some p =>
    rw [hf] at hq
    exact wpAny_pure hq
  | none =>
    rw [hf] at hq
    show wpAny _ _ (Builtin.Dict.missed d kv >>= _) _ _ _
    exact wpAny_bind (wpAny_missed_other hd (wpAny_pure hq))
theorem call_setd {v : Value} {Q : Value → Shared → Prop} (hu : A.in1.units + 8 < cLine) (hk : KeyIs s.heap k kv) (hd : (d == sysModules) = false) (hm : DAt w d ys s.heap) (hK : DKeys s.heap ys) (hz : ys.length ≤ sizeLine)
    (h1 : ∀ u, lookE ys k = some u → Q u { s with toks := s.toks + k.draws })
    (h2 : lookE ys k = none → ∀ h', DAt w d (putE ys k kv v) h' → Heap.SameBut d s.heap h' → Q v { s with heap := h', toks := s.toks + k.draws }) :
    wpAny (model prog w) A (call (.builtin "dict.setdefault") [.ref d, kv, v]) Q E s := by
  refine call_meetsIn F.slot_dict_setdefault hm.typeIs F.entry_dict_setdefault (F.args_dict_setdefault_3 _ _ _) (S := fun A' R s' => A' = A ∧ s' = s ∧ (∀ u, lookE ys k = some u → R (.ok (.ret u)) { s with toks := s.toks + k.draws }) ∧
    (lookE ys k = none → ∀ h', DAt w d (putE ys k kv v) h' → Heap.SameBut d s.heap h' → R (.ok (.ret v)) { s with heap := h', toks := s.toks + k.draws })) (fun A' R s' hS => ?_) ⟨rfl, rfl, h1, h2⟩
  obtain ⟨rfl, rfl, q1, q2⟩ := hS
  refine wpAny_bind ?_
  unfold Builtin.Dict.keyAndDefault
  refine wpAny_bind (wpAny_notOrdered_dict hm.typeIs ?_)
  show wpAny _ _ (pure (d, kv, some v)) _ _ _
  refine wpAny_pure ?_
  show wpAny _ _ (if (d == sysModules) = true then _ else (dictSetDefault d kv v >>= _)) _ _ _
  rw [if_neg (by rw [hd]; exact Bool.false_ne_true)]
  exact wpAny_bind (setd_key hu hk hm hK hz (fun u hl => wpAny_pure (q1 u hl)) fun hn h1 hm1 hs1 => wpAny_pure (q2 hn h1 hm1 hs1))
end
end Gh
end
section
set_option Elab.async false
set_option linter.all false
set_option maxRecDepth 100000
/-! Data, handles, and what a run of the program over them says of HandS's readings. -/
namespace Gh
open PySem PySem.Spec PyProof.Rows L2

/-- data: lst, dct are lists and dicts that are never changed; obj n: a thing with the handle n -/
inductive D where
  | non | bl (b : Bool) | int (i : Int) | str (x : Str) | tup (ds : List D) | tupx (ds : List D) | lst (ds : List D) | dct (ks vs : List D) | obj (n : Nat)
namespace D
mutual
def beq : D → D → Bool
  | .non, .non => true
  | .bl a, .bl b => a == b
  | .int a, .int b => decide (a = b)
  | .str a, .str b => decide (a = b)
  | .tup a, .tup b => beqs a b
  | .tupx a, .tupx b => beqs a b
  | .lst a, .lst b => beqs a b
  | .dct a c, .dct b d => beqs a b && beqs c d
  | .obj a, .obj b => decide (a = b)
  | _, _ => false
def beqs : List D → List D → Bool
  | [], [] => true
  | a :: as, b :: bs => beq a b && beqs as bs
  | _, _ => false
end
mutual
theorem beq_self : ∀ a : D, beq a a = true
  | .non => rfl
  | .bl a => by simp [beq]
  | .int a => by simp [beq]
  | .str a => by simp [beq]
  | .tup a => by rw [beq]; exact beqs_self a
  | .tupx a => by rw [beq]; exact beqs_self a
  | .lst a => by rw [beq]; exact beqs_self a
  | .dct a c => by rw [beq, beqs_self a, beqs_self c]; rfl
  | .obj a => by simp [beq]
theorem beqs_self : ∀ a : List D, beqs a a = true
  | [] => rfl
  | a :: as => by rw [beqs, beq_self a, beqs_self as]; rfl
end
mutual
theorem of_beq : ∀ a b : D, beq a b = true → a = b
  | .non, b, h => by cases b <;> first | rfl | simp [beq] at h
  | .bl a, b, h => by cases b <;> first | (simp [beq] at h; rw [h]) | simp [beq] at h
  | .int a, b, h => by cases b <;> first | (simp [beq] at h; rw [h]) | simp [beq] at h
  | .str a, b, h => by cases b <;> first | (simp [beq] at h; rw [h]) | simp [beq] at h
  | .tup a, b, h => by
    cases b with
    | tup b => rw [beq] at h; rw [of_beqs a b h]
    | _ => simp [beq] at h
  | .tupx a, b, h => by
    cases b with
    | tupx b => rw [beq] at h; rw [of_beqs a b h]
    | _ => simp [beq] at h
  | .lst a, b, h => by
    cases b with
    | lst b => rw [beq] at h; rw [of_beqs a b h]
    | _ => simp [beq] at h
  | .dct a c, b, h => by
    cases b with
    | dct b d =>
      rw [beq, Bool.and_eq_true] at h
      rw [of_beqs a b h.1, of_beqs c d h.2]
    | _ => simp [beq] at h
  | .obj a, b, h => by cases b <;> first | (simp [beq] at h; rw [h]) | simp [beq] at h
theorem of_beqs : ∀ a b : List D, beqs a b = true → a = b
  | [], b, h => by cases b <;> first | rfl | simp [beqs] at h
  | a :: as, b, h => by
    cases b with
    | nil => simp [beqs] at h
    | cons b bs =>
      rw [beqs, Bool.and_eq_true] at h
      rw [of_beq a b h.1, of_beqs as bs h.2]
end
instance : DecidableEq D := fun a b => if h : beq a b = true then .isTrue (of_beq a b h) else .isFalse fun e => h (e ▸ beq_self a)
end D

/-- a thing that may change -/
inductive IO where
  | lst (ds : List D) | dct (kvs : List (D × D)) | lck (kvs : List (D × D)) | ins (c : Str) (fs : List (Str × D))
  deriving DecidableEq
abbrev IH := List IO
abbrev Env := List (Option D)
abbrev M (α : Type) := IH → Option (α × IH)


/-! ### keys -/
mutual
def keyOf : D → Option NestedKey
  | .non => some .none
  | .bl b => some (.num (if b = true then 1 else 0))
  | .int i => some (.num i)
  | .str x => some (.text x)
  | .tup ds => (keysOf ds).map .tup
  | .tupx _ => none
  | .lst _ => none
  | .dct _ _ => none
  | .obj _ => none
def keysOf : List D → Option (List NestedKey)
  | [] => some []
  | d :: ds => (keyOf d).bind fun k => (keysOf ds).map fun ks => k :: ks
end
/-- a key that may be asked for: to depth 8 -/
def hkey (d : D) : Option NestedKey := (keyOf d).bind fun k => if k.depth ≤ 8 then some k else none
theorem hkey_some {d : D} {k : NestedKey} (h : hkey d = some k) : keyOf d = some k ∧ k.depth ≤ 8 := by
  unfold hkey at h
  cases e : keyOf d with
  | none => rw [e] at h; cases h
  | some k' =>
    rw [e] at h
    simp only [Option.bind_some] at h
    split at h
    · cases h
      exact ⟨rfl, by assumption⟩
    · cases h

/-- the handles' addresses; the addresses of what is in the making (nothing refers to it) -/
structure Th where
  h : List Addr
  b : List Addr
def Th.free (θ : Th) (a : Addr) : Prop := a ∉ θ.h ∧ a ∉ θ.b

def isTbl : HO → Bool
  | .tbl _ => true
  | _ => false
def isMut : HO → Bool
  | .dK _ => true
  | .tbl _ => true
  | .lst _ => true
  | .ext _ => true
  | .ins _ _ _ => true
  | _ => false

/-! ### what stands for what -/
section
variable (K : PySem.W.Frag) (w : World) (mg : Str → Option Value)
mutual
inductive RD (θ : Th) (H : Hp) : D → V → Prop
  | non : RD θ H .non .non
  | bl (b : Bool) : RD θ H (.bl b) (.bl b)
  | int (i : Int) : RD θ H (.int i) (.int i)
  | str (x : Str) : RD θ H (.str x) (.str x)
  | tup {ds : List D} {a : Addr} {vs : List V} : SqT K H a vs → RDs θ H ds vs → RD θ H (.tup ds) (.ref a)
  | tupx {ds : List D} {a : Addr} {vs : List V} {ob : Obj} : H a = some (.frz ob (.tup vs)) → ob.dict = none → RDs θ H ds vs → RD θ H (.tupx ds) (.ref a)
  | lst {ds : List D} {a : Addr} {vs : List V} : θ.free a → Rd H a (.lst vs) → RDs θ H ds vs → RD θ H (.lst ds) (.ref a)
  | dct {ks vs : List D} {a : Addr} {ys : List Ent} {ob : Obj} : θ.free a → H a = some (.frz ob (.ext (DAt w a ys))) → (a == sysModules) = false → ys.length ≤ sizeLine → (ys.map (·.1)).Nodup → REs θ H ks vs ys → RD θ H (.dct ks vs) (.ref a)
  | obj {n : Nat} {a : Addr} : θ.h[n]? = some a → RD θ H (.obj n) (.ref a)
inductive RDs (θ : Th) (H : Hp) : List D → List V → Prop
  | nil : RDs θ H [] []
  | cons {d : D} {v : V} {ds : List D} {vs : List V} : RD θ H d v → RDs θ H ds vs → RDs θ H (d :: ds) (v :: vs)
inductive REs (θ : Th) (H : Hp) : List D → List D → List Ent → Prop
  | nil : REs θ H [] [] []
  | cons {kd vd : D} {k : NestedKey} {kv vv : V} {ku vu : Value} {ks vs : List D} {ys : List Ent} : hkey kd = some k → RD θ H kd kv → RelV kv ku → RD θ H vd vv → RelV vv vu → REs θ H ks vs ys → REs θ H (kd :: ks) (vd :: vs) ((k, ku, vu) :: ys)
end
inductive RO (θ : Th) (H : Hp) (a : Addr) : IO → Prop
  | lst {ds : List D} {vs : List V} : H a = some (.lst vs) → RDs K w θ H ds vs → RO θ H a (.lst ds)
  | dct {kvs : List (D × D)} {ys : List Ent} : H a = some (.ext (DAt w a ys)) → (a == sysModules) = false → ys.length ≤ sizeLine → (ys.map (·.1)).Nodup → REs K w θ H (kvs.map (·.1)) (kvs.map (·.2)) ys → RO θ H a (.dct kvs)
  | lck {kvs : List (D × D)} {ys : List Ent} {ob : Obj} : H a = some (.frz ob (.ext (DAt w a ys))) → (a == sysModules) = false → ys.length ≤ sizeLine → (ys.map (·.1)).Nodup → REs K w θ H (kvs.map (·.1)) (kvs.map (·.2)) ys → RO θ H a (.lck kvs)
  | ins {c : Str} {C dx : Addr} {fs : List (Str × D)} {vs : List (Str × V)} : mg c = some (.ref C) → H a = some (.ins C dx vs) → vs.map (·.1) = fs.map (·.1) → RDs K w θ H (fs.map (·.2)) (vs.map (·.2)) → RO θ H a (.ins c fs)
/-- the tables of code objects at T -/
def TabR (T : List (Addr × Str)) (θ : Th) (H : Hp) : Prop := ∀ p ∈ T, ∃ ps : Array Value, H p.1 = some (.tbl ps) ∧ TriplesOk ps.toList ∧ ∀ (pos : Pos) (cv : Value), codeAmong pos ps.toList = some cv → ∃ c, cv = .ref c ∧ θ.free c ∧ H c = some (LamX.CodeO c p.2)
structure RH (T : List (Addr × Str)) (θ : Th) (H : Hp) (ih : IH) : Prop where
  tab : TabR T θ H
  bon : ∀ b ∈ θ.b, b ∉ θ.h ∧ ∃ o, H b = some o ∧ isTbl o = false
  len : θ.h.length = ih.length
  nd : θ.h.Nodup
  at_ : ∀ (n : Nat) (a : Addr) (o : IO), θ.h[n]? = some a → ih[n]? = some o → RO K w mg θ H a o
inductive RE (θ : Th) (H : Hp) : Env → L2.St → Prop
  | nil : RE θ H [] []
  | val {d : D} {v : V} {ρ : Env} {σ : L2.St} : RD K w θ H d v → RE θ H ρ σ → RE θ H (some d :: ρ) (some v :: σ)
  | gap {x : Option V} {ρ : Env} {σ : L2.St} : RE θ H ρ σ → RE θ H (none :: ρ) (x :: σ)
end

/-- what a run may do: new handles for new things; what is no handle's stays, and what can't change; what stands goes on standing -/
structure Ev (θ : Th) (H : Hp) (θ' : Th) (H' : Hp) : Prop where
  pre : ∃ l, θ' = ⟨θ.h ++ l, θ.b⟩ ∧ ∀ a ∈ l, H a = none
  fr : ∀ a o, H a = some o → (a ∉ θ.h ∧ isTbl o = false ∨ isMut o = false) → H' a = some o
  on : ∀ a o, H a = some o → ∃ o', H' a = some o' ∧ isTbl o' = isTbl o
theorem Ev.refl (θ : Th) (H : Hp) : Ev θ H θ H := ⟨⟨[], by simp, by simp⟩, fun _ _ h _ => h, fun _ o h => ⟨o, h, rfl⟩⟩
theorem Ev.notin {θ θ' : Th} {H H' : Hp} {a : Addr} {o : HO} (e : Ev θ H θ' H') (h : a ∉ θ.h) (ho : H a = some o) : a ∉ θ'.h := by
  obtain ⟨l, rfl, hl⟩ := e.pre
  intro hm
  rcases List.mem_append.mp hm with hm | hm
  · exact h hm
  · rw [hl a hm] at ho
    cases ho
theorem Ev.free {θ θ' : Th} {H H' : Hp} {a : Addr} {o : HO} (e : Ev θ H θ' H') (h : θ.free a) (ho : H a = some o) : θ'.free a := by
  refine ⟨e.notin h.1 ho, ?_⟩
  obtain ⟨l, rfl, hl⟩ := e.pre
  exact h.2
theorem Ev.trans {θ θ1 θ2 : Th} {H H1 H2 : Hp} (a : Ev θ H θ1 H1) (b : Ev θ1 H1 θ2 H2) : Ev θ H θ2 H2 := by
  refine ⟨?_, fun x o h q => b.fr x o (a.fr x o h q) ?_, fun x o h => ?_⟩
  · obtain ⟨l, e1, hl⟩ := id a.pre
    obtain ⟨l2, e2, hl2⟩ := b.pre
    refine ⟨l ++ l2, by rw [e2, e1, List.append_assoc], fun x hx => ?_⟩
    rcases List.mem_append.mp hx with hx | hx
    · exact hl x hx
    · have h1 : H1 x = none := hl2 x hx
      cases e : H x with
      | none => rfl
      | some o =>
        obtain ⟨o', q, _⟩ := a.on x o e
        rw [h1] at q
        cases q
  · rcases q with ⟨q, qt⟩ | q
    · exact .inl ⟨a.notin q h, qt⟩
    · exact .inr q
  · obtain ⟨o1, h1, e1⟩ := a.on x o h
    obtain ⟨o2, h2, e2⟩ := b.on x o1 h1
    exact ⟨o2, h2, e2.trans e1⟩
/-- a new thing that gets no handle -/
theorem Ev.new {θ : Th} {H : Hp} {p : Addr} {o : HO} (h : H p = none) : Ev θ H θ (upd H p o) :=
  ⟨⟨[], by simp, by simp⟩, fun a u e _ => by rw [upd_ne (ne_of_none e h)]; exact e, fun a u e => ⟨u, by rw [upd_ne (ne_of_none e h)]; exact e, rfl⟩⟩
/-- a new thing with a handle -/
theorem Ev.made {θ : Th} {H : Hp} {p : Addr} {o : HO} (h : H p = none) : Ev θ H ⟨θ.h ++ [p], θ.b⟩ (upd H p o) :=
  ⟨⟨[p], rfl, fun a ha => by rw [List.mem_singleton.mp ha]; exact h⟩, fun a u e _ => by rw [upd_ne (ne_of_none e h)]; exact e, fun a u e => ⟨u, by rw [upd_ne (ne_of_none e h)]; exact e, rfl⟩⟩
/-- a thing with a handle is changed -/
theorem Ev.set {θ : Th} {H : Hp} {p : Addr} {o u : HO} (hp : p ∈ θ.h) (h : H p = some u) (hm : isMut u = true) (ht : isTbl o = isTbl u) : Ev θ H θ (upd H p o) := by
  refine ⟨⟨[], by simp, by simp⟩, fun a v e q => ?_, fun a v e => ?_⟩
  · by_cases ha : a = p
    · subst ha
      rw [h] at e
      cases e
      rcases q with ⟨q, _⟩ | q
      · exact absurd hp q
      · rw [hm] at q
        cases q
    · rw [upd_ne ha]
      exact e
  · by_cases ha : a = p
    · subst ha
      rw [h] at e
      cases e
      exact ⟨o, upd_same, ht⟩
    · exact ⟨v, by rw [upd_ne ha]; exact e, rfl⟩
/-- what is in the making does not count -/
theorem Ev.unb {h h' b c : List Addr} {H H' : Hp} (e : Ev ⟨h, b⟩ H ⟨h', b⟩ H') : Ev ⟨h, c⟩ H ⟨h', c⟩ H' := by
  obtain ⟨l, e1, hl⟩ := e.pre
  cases e1
  exact ⟨⟨l, rfl, hl⟩, e.fr, e.on⟩

section
variable {K : PySem.W.Frag} {w : World} {mg : Str → Option Value} {T : List (Addr × Str)} {θ θ' : Th} {H H' : Hp}
theorem Ev.sqT (e : Ev θ H θ' H') {a : Addr} {vs : List V} (h : SqT K H a vs) : SqT K H' a vs := by
  rcases h with h | h
  · rcases h with h | ⟨o, h⟩
    · exact .inl (.inl (e.fr _ _ h (.inr rfl)))
    · exact .inl (.inr ⟨o, e.fr _ _ h (.inr rfl)⟩)
  · exact .inr h
theorem Ev.rdL (e : Ev θ H θ' H') {a : Addr} {u : HO} (ha : θ.free a) (h : Rd H a u) (ht : isTbl u = false := by rfl) : θ'.free a ∧ Rd H' a u := by
  rcases h with h | ⟨o, h⟩
  · exact ⟨e.free ha h, .inl (e.fr _ _ h (.inl ⟨ha.1, ht⟩))⟩
  · exact ⟨e.free ha h, .inr ⟨o, e.fr _ _ h (.inr rfl)⟩⟩
mutual
theorem RD.mono (e : Ev θ H θ' H') : ∀ {d : D} {v : V}, RD K w θ H d v → RD K w θ' H' d v
  | _, _, .non => .non
  | _, _, .bl b => .bl b
  | _, _, .int i => .int i
  | _, _, .str x => .str x
  | _, _, .tup h r => .tup (e.sqT h) (RDs.mono e r)
  | _, _, .tupx h h1 r => .tupx (e.fr _ _ h (.inr rfl)) h1 (RDs.mono e r)
  | _, _, .lst ha h r => .lst (e.rdL ha h).1 (e.rdL ha h).2 (RDs.mono e r)
  | _, _, .dct ha h h1 h2 h3 r => .dct (e.free ha h) (e.fr _ _ h (.inr rfl)) h1 h2 h3 (REs.mono e r)
  | _, _, .obj (n := n) (a := a) h => .obj (by
      obtain ⟨l, rfl, _⟩ := e.pre
      rw [List.getElem?_append_left (List.getElem?_eq_some_iff.mp h).1]
      exact h)
theorem RDs.mono (e : Ev θ H θ' H') : ∀ {ds : List D} {vs : List V}, RDs K w θ H ds vs → RDs K w θ' H' ds vs
  | _, _, .nil => .nil
  | _, _, .cons h r => .cons (RD.mono e h) (RDs.mono e r)
theorem REs.mono (e : Ev θ H θ' H') : ∀ {ks vs : List D} {ys : List Ent}, REs K w θ H ks vs ys → REs K w θ' H' ks vs ys
  | _, _, _, .nil => .nil
  | _, _, _, .cons h1 h2 h3 h4 h5 r => .cons h1 (RD.mono e h2) h3 (RD.mono e h4) h5 (REs.mono e r)
end
theorem RE.mono (e : Ev θ H θ' H') : ∀ {ρ : Env} {σ : L2.St}, RE K w θ H ρ σ → RE K w θ' H' ρ σ
  | _, _, .nil => .nil
  | _, _, .val h r => .val (h.mono e) (RE.mono e r)
  | _, _, .gap r => .gap (RE.mono e r)
theorem RE.get : ∀ {ρ : Env} {σ : L2.St} {i : Nat} {d : D}, RE K w θ H ρ σ → ρ[i]? = some (some d) → ∃ v, σ[i]? = some (some v) ∧ RD K w θ H d v
  | _, _, _, _, .nil, h => by simp at h
  | _, _, 0, _, .val q _, h => by
    simp at h
    subst h
    exact ⟨_, rfl, q⟩
  | _, _, 0, _, .gap _, h => by simp at h
  | _, _, i + 1, _, .val _ r, h => by
    obtain ⟨v, h1, h2⟩ := RE.get (i := i) r (by simpa using h)
    exact ⟨v, by simpa using h1, h2⟩
  | _, _, i + 1, _, .gap r, h => by
    obtain ⟨v, h1, h2⟩ := RE.get (i := i) r (by simpa using h)
    exact ⟨v, by simpa using h1, h2⟩
theorem RE.set {d : D} {v : V} (q : RD K w θ H d v) : ∀ {ρ : Env} {σ : L2.St} (i : Nat), RE K w θ H ρ σ → RE K w θ H (ρ.set i (some d)) (σ.set i (some v))
  | _, _, _, .nil => .nil
  | _, _, 0, .val _ r => .val q r
  | _, _, 0, .gap r => .val q r
  | _, _, i + 1, .val h r => .val h (RE.set q i r)
  | _, _, i + 1, .gap r => .gap (RE.set q i r)
theorem RE.drop {x : Option V} : ∀ {ρ : Env} {σ : L2.St} (i : Nat), RE K w θ H ρ σ → RE K w θ H (ρ.set i none) (σ.set i x)
  | _, _, _, .nil => .nil
  | _, _, 0, .val _ r => .gap r
  | _, _, 0, .gap r => .gap r
  | _, _, i + 1, .val h r => .val h (RE.drop i r)
  | _, _, i + 1, .gap r => .gap (RE.drop i r)
theorem RDs.get : ∀ {ds : List D} {vs : List V} {i : Nat} {d : D}, RDs K w θ H ds vs → ds[i]? = some d → ∃ v, vs[i]? = some v ∧ RD K w θ H d v
  | _, _, _, _, .nil, h => by simp at h
  | _, _, 0, _, .cons q _, h => by
    simp at h
    subst h
    exact ⟨_, rfl, q⟩
  | _, _, i + 1, _, .cons _ r, h => by
    obtain ⟨v, h1, h2⟩ := RDs.get (i := i) r (by simpa using h)
    exact ⟨v, by simpa using h1, h2⟩
theorem RDs.length : ∀ {ds : List D} {vs : List V}, RDs K w θ H ds vs → vs.length = ds.length
  | _, _, .nil => rfl
  | _, _, .cons _ r => by rw [List.length_cons, List.length_cons, RDs.length r]
theorem RDs.append : ∀ {ds es : List D} {vs us : List V}, RDs K w θ H ds vs → RDs K w θ H es us → RDs K w θ H (ds ++ es) (vs ++ us)
  | _, _, _, _, .nil, r => r
  | _, _, _, _, .cons q t, r => .cons q (RDs.append t r)
theorem RDs.take : ∀ {ds : List D} {vs : List V} (n : Nat), RDs K w θ H ds vs → RDs K w θ H (ds.take n) (vs.take n)
  | _, _, 0, _ => .nil
  | _, _, _ + 1, .nil => .nil
  | _, _, n + 1, .cons q r => .cons q (RDs.take n r)
theorem RDs.drop : ∀ {ds : List D} {vs : List V} (n : Nat), RDs K w θ H ds vs → RDs K w θ H (ds.drop n) (vs.drop n)
  | _, _, 0, r => r
  | _, _, _ + 1, .nil => .nil
  | _, _, n + 1, .cons _ r => RDs.drop n r
theorem RDs.set {d : D} {v : V} (q : RD K w θ H d v) : ∀ {ds : List D} {vs : List V} (n : Nat), RDs K w θ H ds vs → RDs K w θ H (ds.set n d) (vs.set n v)
  | _, _, _, .nil => .nil
  | _, _, 0, .cons _ r => .cons q r
  | _, _, n + 1, .cons h r => .cons h (RDs.set q n r)
theorem RDs.reverse {ds : List D} {vs : List V} (h : RDs K w θ H ds vs) : RDs K w θ H ds.reverse vs.reverse := by
  have key : ∀ {ds : List D} {vs : List V}, RDs K w θ H ds vs → ∀ {es : List D} {us : List V}, RDs K w θ H es us → RDs K w θ H (ds.reverseAux es) (vs.reverseAux us) := by
    intro ds vs h
    induction ds generalizing vs with
    | nil => cases h; intro es us r; exact r
    | cons d ds ih =>
      cases h with
      | cons q t => intro es us r; exact ih t (.cons q r)
  exact key h .nil

/-- one thing is written: the heap behind it -/
theorem RO.mono (e : Ev θ H θ' H') {a : Addr} {o : IO} (h : RO K w mg θ H a o) (ha : ∀ u, H a = some u → H' a = some u) : RO K w mg θ' H' a o := by
  cases h with
  | lst h r => exact .lst (ha _ h) (r.mono e)
  | dct h h1 h2 h3 r => exact .dct (ha _ h) h1 h2 h3 (r.mono e)
  | lck h h1 h2 h3 r => exact .lck (ha _ h) h1 h2 h3 (r.mono e)
  | ins h1 h2 h3 r => exact .ins h1 (ha _ h2) h3 (r.mono e)
theorem RH.get {ih : IH} (h : RH K w mg T θ H ih) {n : Nat} {o : IO} (hn : ih[n]? = some o) : ∃ a, θ.h[n]? = some a ∧ RO K w mg θ H a o := by
  have hl := (List.getElem?_eq_some_iff.mp hn).1
  rw [← h.len] at hl
  exact ⟨θ.h[n], List.getElem?_eq_getElem hl, h.at_ n _ o (List.getElem?_eq_getElem hl) hn⟩
theorem RO.on {a : Addr} {o : IO} (h : RO K w mg θ H a o) : ∃ u, H a = some u ∧ isTbl u = false := by
  cases h with
  | lst h r => exact ⟨_, h, rfl⟩
  | dct h h1 h2 h3 r => exact ⟨_, h, rfl⟩
  | lck h h1 h2 h3 r => exact ⟨_, h, rfl⟩
  | ins h1 h2 h3 r => exact ⟨_, h2, rfl⟩
theorem RH.mut {ih : IH} (h : RH K w mg T θ H ih) {a : Addr} (ha : a ∈ θ.h) : ∃ u, H a = some u ∧ isTbl u = false := by
  obtain ⟨n, hn⟩ := List.mem_iff_getElem?.mp ha
  have hl := (List.getElem?_eq_some_iff.mp hn).1
  rw [h.len] at hl
  exact (h.at_ n a _ hn (List.getElem?_eq_getElem hl)).on
theorem RH.free_new {ih : IH} (h : RH K w mg T θ H ih) {p : Addr} (hp : H p = none) : θ.free p := by
  refine ⟨fun hm => ?_, fun hm => ?_⟩
  · obtain ⟨v, hv, _⟩ := h.mut hm
    rw [hp] at hv
    cases hv
  · obtain ⟨_, v, hv, _⟩ := h.bon p hm
    rw [hp] at hv
    cases hv
theorem TabR.stay (h : TabR T θ H) (hs : ∀ a o, H a = some o → θ.free a ∨ isTbl o = true → H' a = some o) (hθ : ∀ a, θ.free a → H a ≠ none → θ'.free a) : TabR T θ' H' := fun p hp => by
  obtain ⟨ps, h1, h2, h3⟩ := h p hp
  refine ⟨ps, hs _ _ h1 (.inr rfl), h2, fun pos cv hc => ?_⟩
  obtain ⟨c, e1, e2, e3⟩ := h3 pos cv hc
  refine ⟨c, e1, hθ c e2 fun q => ?_, hs _ _ e3 (.inl e2)⟩
  rw [q] at e3
  cases e3
/-- all that stood stands -/
theorem RH.same {ih : IH} (h : RH K w mg T θ H ih) (e : Ev θ H θ H') (hs : ∀ a o, H a = some o → H' a = some o) : RH K w mg T θ H' ih := by
  refine ⟨h.tab.stay (fun a o q _ => hs a o q) (fun a q _ => q), fun b hb => ?_, h.len, h.nd, fun n a o h1 h2 => (h.at_ n a o h1 h2).mono e fun u hu => ?_⟩
  · obtain ⟨h1, o, h2, h3⟩ := h.bon b hb
    exact ⟨h1, o, hs _ _ h2, h3⟩
  · exact hs a u hu
theorem RH.new {ih : IH} (h : RH K w mg T θ H ih) {p : Addr} {u : HO} (hp : H p = none) : RH K w mg T θ (upd H p u) ih :=
  h.same (Ev.new hp) fun a o q => by rw [upd_ne (ne_of_none q hp)]; exact q
/-- a new handle -/
theorem RH.made {ih : IH} (h : RH K w mg T θ H ih) {p : Addr} {u : HO} {o : IO} (hp : H p = none) (ho : RO K w mg ⟨θ.h ++ [p], θ.b⟩ (upd H p u) p o) : RH K w mg T ⟨θ.h ++ [p], θ.b⟩ (upd H p u) (ih ++ [o]) := by
  have hpn := h.free_new hp
  refine ⟨h.tab.stay (fun a o q _ => by rw [upd_ne (ne_of_none q hp)]; exact q) (fun a q q' => ?_), fun b hb => ?_, by show (θ.h ++ [p]).length = (ih ++ [o]).length; rw [List.length_append, List.length_append, h.len] <;> rfl, ?_, fun n a o' h1 h2 => ?_⟩
  · refine ⟨fun hm => ?_, q.2⟩
    rcases List.mem_append.mp hm with hm | hm
    · exact q.1 hm
    · rw [List.mem_singleton.mp hm] at q'
      exact q' hp
  · obtain ⟨h1, v, h2, h3⟩ := h.bon b hb
    refine ⟨fun hm => ?_, v, by rw [upd_ne (ne_of_none h2 hp)]; exact h2, h3⟩
    rcases List.mem_append.mp hm with hm | hm
    · exact h1 hm
    · rw [List.mem_singleton.mp hm, hp] at h2
      cases h2
  · show (θ.h ++ [p]).Nodup
    rw [List.nodup_append]
    refine ⟨h.nd, by simp, fun a ha b hb => ?_⟩
    rw [List.mem_singleton.mp hb]
    rintro rfl
    exact hpn.1 ha
  · have h1 : (θ.h ++ [p])[n]? = some a := h1
    by_cases hn : n < θ.h.length
    · rw [List.getElem?_append_left hn] at h1
      rw [List.getElem?_append_left (by rw [← h.len]; exact hn)] at h2
      refine (h.at_ n a o' h1 h2).mono (Ev.made hp) fun v hv => ?_
      rw [upd_ne (ne_of_none hv hp)]
      exact hv
    · rw [List.getElem?_append_right (by omega)] at h1
      rw [List.getElem?_append_right (by rw [← h.len]; omega)] at h2
      have e0 : n - θ.h.length = 0 := by
        have := (List.getElem?_eq_some_iff.mp h1).1
        simp at this
        omega
      rw [e0] at h1
      rw [← h.len, e0] at h2
      simp at h1 h2
      subst h1 h2
      exact ho
theorem RO.isTbl {a : Addr} {o : IO} (h : RO K w mg θ H a o) {u : HO} (e : H a = some u) : isTbl u = false := by
  obtain ⟨v, h1, h3⟩ := h.on
  rw [e] at h1
  cases h1
  exact h3
/-- a thing with a handle is written -/
theorem RH.set {ih : IH} (h : RH K w mg T θ H ih) {n : Nat} {p : Addr} {u : HO} {o : IO} {v : HO} (hn : θ.h[n]? = some p) (hv : H p = some v) (hmut : isMut v = true) (ho : RO K w mg θ (upd H p u) p o) : RH K w mg T θ (upd H p u) (ih.set n o) ∧ Ev θ H θ (upd H p u) := by
  have hm : p ∈ θ.h := List.mem_of_getElem? hn
  have hvt : isTbl v = false := by
    obtain ⟨v', q, r⟩ := h.mut hm
    rw [hv] at q
    cases q
    exact r
  have hut : isTbl u = false := ho.isTbl upd_same
  have e : Ev θ H θ (upd H p u) := Ev.set hm hv hmut (by rw [hut, hvt])
  refine ⟨⟨h.tab.stay (fun a o q q' => ?_) (fun a q _ => q), fun b hb => ?_, by rw [List.length_set]; exact h.len, h.nd, fun j a o' h1 h2 => ?_⟩, e⟩
  · rw [upd_ne]
    · exact q
    · rintro rfl
      rcases q' with q' | q'
      · exact q'.1 hm
      · rw [hv] at q
        cases q
        rw [hvt] at q'
        cases q'
  · obtain ⟨h1, x, h2, h3⟩ := h.bon b hb
    refine ⟨h1, x, ?_, h3⟩
    rw [upd_ne]
    · exact h2
    · rintro rfl
      exact h1 hm
  · by_cases hj : j = n
    · subst hj
      rw [hn] at h1
      cases h1
      have hl := (List.getElem?_eq_some_iff.mp hn).1
      rw [h.len] at hl
      rw [List.getElem?_set_self hl] at h2
      cases h2
      exact ho
    · rw [List.getElem?_set_ne (Ne.symm hj)] at h2
      refine (h.at_ j a o' h1 h2).mono e fun v' hv' => ?_
      rw [upd_ne]
      · exact hv'
      · rintro rfl
        exact hj ((List.getElem?_inj (List.getElem?_eq_some_iff.mp h1).1 h.nd).mp (h1.trans hn.symm))

/-! ### what is in the making -/
/-- all that stands but D goes on standing, D is in the making -/
structure Acc (θ θ' : Th) (H H' : Hp) : Prop where
  h : θ'.h = θ.h
  fr : ∀ a, θ.free a → H a ≠ none → θ'.free a
  keep : ∀ {a : Addr} {o : HO}, H a = some o → (θ.free a ∨ isMut o = false ∨ isTbl o = true ∨ a ∈ θ.h) → H' a = some o
section
variable (c : Acc θ θ' H H')
include c
theorem Acc.sqT {a : Addr} {vs : List V} (h : SqT K H a vs) : SqT K H' a vs := by
  rcases h with h | h
  · rcases h with h | ⟨o, h⟩
    · exact .inl (.inl (c.keep h (.inr (.inl rfl))))
    · exact .inl (.inr ⟨o, c.keep h (.inr (.inl rfl))⟩)
  · exact .inr h
theorem Acc.rdL {a : Addr} {u : HO} (ha : θ.free a) (h : Rd H a u) : θ'.free a ∧ Rd H' a u := by
  rcases h with h | ⟨o, h⟩
  · exact ⟨c.fr _ ha (by rw [h]; simp), .inl (c.keep h (.inl ha))⟩
  · exact ⟨c.fr _ ha (by rw [h]; simp), .inr ⟨o, c.keep h (.inl ha)⟩⟩
mutual
theorem RD.acc : ∀ {d : D} {v : V}, RD K w θ H d v → RD K w θ' H' d v
  | _, _, .non => .non
  | _, _, .bl b => .bl b
  | _, _, .int i => .int i
  | _, _, .str x => .str x
  | _, _, .tup h r => .tup (c.sqT h) (RDs.acc r)
  | _, _, .tupx h h1 r => .tupx (c.keep h (.inr (.inl rfl))) h1 (RDs.acc r)
  | _, _, .lst ha h r => .lst (c.rdL ha h).1 (c.rdL ha h).2 (RDs.acc r)
  | _, _, .dct ha h h1 h2 h3 r => .dct (c.fr _ ha (by rw [h]; simp)) (c.keep h (.inr (.inl rfl))) h1 h2 h3 (REs.acc r)
  | _, _, .obj (n := n) (a := a) h => .obj (by rw [c.h]; exact h)
theorem RDs.acc : ∀ {ds : List D} {vs : List V}, RDs K w θ H ds vs → RDs K w θ' H' ds vs
  | _, _, .nil => .nil
  | _, _, .cons h r => .cons (RD.acc h) (RDs.acc r)
theorem REs.acc : ∀ {ks vs : List D} {ys : List Ent}, REs K w θ H ks vs ys → REs K w θ' H' ks vs ys
  | _, _, _, .nil => .nil
  | _, _, _, .cons h1 h2 h3 h4 h5 r => .cons h1 (RD.acc h2) h3 (RD.acc h4) h5 (REs.acc r)
end
theorem RE.acc : ∀ {ρ : Env} {σ : L2.St}, RE K w θ H ρ σ → RE K w θ' H' ρ σ
  | _, _, .nil => .nil
  | _, _, .val h r => .val (RD.acc c h) (RE.acc r)
  | _, _, .gap r => .gap (RE.acc r)
theorem RO.acc {a : Addr} {o : IO} (ha : a ∈ θ.h) (h : RO K w mg θ H a o) : RO K w mg θ' H' a o := by
  cases h with
  | lst h r => exact .lst (c.keep h (.inr (.inr (.inr ha)))) (RDs.acc c r)
  | dct h h1 h2 h3 r => exact .dct (c.keep h (.inr (.inr (.inr ha)))) h1 h2 h3 (REs.acc c r)
  | lck h h1 h2 h3 r => exact .lck (c.keep h (.inr (.inr (.inr ha)))) h1 h2 h3 (REs.acc c r)
  | ins h1 h2 h3 r => exact .ins h1 (c.keep h2 (.inr (.inr (.inr ha)))) h3 (RDs.acc c r)
theorem RH.acc {ih : IH} (h : RH K w mg T θ H ih) (hb : ∀ b ∈ θ'.b, b ∉ θ'.h ∧ ∃ o, H' b = some o ∧ isTbl o = false) : RH K w mg T θ' H' ih := by
  refine ⟨h.tab.stay (fun a o q q' => c.keep q (q'.elim .inl fun z => .inr (.inr (.inl z)))) c.fr, hb, by rw [c.h]; exact h.len, by rw [c.h]; exact h.nd, fun n a o h1 h2 => ?_⟩
  rw [c.h] at h1
  exact RO.acc c (List.mem_of_getElem? h1) (h.at_ n a o h1 h2)
end
/-- D is laid -/
theorem Acc.lay {ih : IH} {p : Addr} {u : HO} (h : RH K w mg T θ H ih) (hp : H p = none) (ht : isTbl u = false) : Acc θ ⟨θ.h, p :: θ.b⟩ H (upd H p u) ∧ RH K w mg T ⟨θ.h, p :: θ.b⟩ (upd H p u) ih := by
  have c : Acc θ ⟨θ.h, p :: θ.b⟩ H (upd H p u) := ⟨rfl, fun a q n => ⟨q.1, fun hm => by
      rcases List.mem_cons.mp hm with rfl | hm
      · exact n hp
      · exact q.2 hm⟩, fun e _ => by rw [upd_ne (ne_of_none e hp)]; exact e⟩
  refine ⟨c, RH.acc c h fun b hb => ?_⟩
  rcases List.mem_cons.mp hb with rfl | hb
  · exact ⟨(h.free_new hp).1, u, upd_same, ht⟩
  · obtain ⟨h1, o, h2, h3⟩ := h.bon b hb
    exact ⟨h1, o, by rw [upd_ne (ne_of_none h2 hp)]; exact h2, h3⟩
/-- D is written -/
theorem Acc.put {ih : IH} {p : Addr} {u u' : HO} (h : RH K w mg T θ H ih) (hb : p ∈ θ.b) (hp : H p = some u) (hm : isMut u = true) (ht : isTbl u' = false) : Acc θ θ H (upd H p u') ∧ RH K w mg T θ (upd H p u') ih := by
  have hut : isTbl u = false := by
    obtain ⟨_, o, h2, h3⟩ := h.bon p hb
    rw [hp] at h2
    cases h2
    exact h3
  have c : Acc θ θ H (upd H p u') := ⟨rfl, fun a q _ => q, fun {a o} e q => by
    rw [upd_ne]
    · exact e
    · rintro rfl
      rcases q with q | q | q | q
      · exact q.2 hb
      · rw [hp] at e; cases e; rw [hm] at q; cases q
      · rw [hp] at e; cases e; rw [hut] at q; cases q
      · exact (h.bon _ hb).1 q⟩
  refine ⟨c, RH.acc c h fun b hb' => ?_⟩
  obtain ⟨h1, o, h2, h3⟩ := h.bon b hb'
  by_cases e : b = p
  · subst e
    exact ⟨h1, u', upd_same, ht⟩
  · exact ⟨h1, o, by rw [upd_ne e]; exact h2, h3⟩
/-- D is whole -/
theorem Acc.done {h b : List Addr} {p : Addr} {ih : IH} (r : RH K w mg T ⟨h, p :: b⟩ H ih) : Acc ⟨h, p :: b⟩ ⟨h, b⟩ H H ∧ RH K w mg T ⟨h, b⟩ H ih := by
  have c : Acc ⟨h, p :: b⟩ ⟨h, b⟩ H H := ⟨rfl, fun a q _ => ⟨q.1, fun z => q.2 (List.mem_cons_of_mem _ z)⟩, fun e _ => e⟩
  exact ⟨c, RH.acc c r fun x hx => r.bon x (List.mem_cons_of_mem _ hx)⟩

/-! ### later -/
/-- at (θ', H') all stands for what it stood for -/
structure Lat (θ : Th) (H : Hp) (θ' : Th) (H' : Hp) : Prop where
  h : ∃ l, θ'.h = θ.h ++ l
  fr : ∀ a o, θ.free a → H a = some o → isTbl o = false → H' a = some o ∧ θ'.free a
  im : ∀ a o, H a = some o → isMut o = false → H' a = some o
theorem Lat.refl (θ : Th) (H : Hp) : Lat θ H θ H := ⟨⟨[], by simp⟩, fun a o f h _ => ⟨h, f⟩, fun a o h _ => h⟩
theorem Lat.trans {θ θ1 θ2 : Th} {H H1 H2 : Hp} (a : Lat θ H θ1 H1) (b : Lat θ1 H1 θ2 H2) : Lat θ H θ2 H2 := by
  refine ⟨?_, fun x o f h t => ?_, fun x o h m => b.im x o (a.im x o h m) m⟩
  · obtain ⟨l, e1⟩ := a.h
    obtain ⟨l2, e2⟩ := b.h
    exact ⟨l ++ l2, by rw [e2, e1, List.append_assoc]⟩
  · obtain ⟨h1, f1⟩ := a.fr x o f h t
    exact b.fr x o f1 h1 t
theorem Lat.ev {θ θ' : Th} {H H' : Hp} (e : Ev θ H θ' H') : Lat θ H θ' H' := by
  refine ⟨?_, fun a o f h t => ⟨e.fr a o h (.inl ⟨f.1, t⟩), e.free f h⟩, fun a o h m => e.fr a o h (.inr m)⟩
  obtain ⟨l, rfl, _⟩ := e.pre
  exact ⟨l, rfl⟩
theorem Lat.acc {θ θ' : Th} {H H' : Hp} (c : Acc θ θ' H H') : Lat θ H θ' H' :=
  ⟨⟨[], by rw [c.h]; simp⟩, fun a o f h t => ⟨c.keep h (.inl f), c.fr a f (by rw [h]; simp)⟩, fun a o h m => c.keep h (.inr (.inl m))⟩
section
variable (c : Lat θ H θ' H')
include c
theorem Lat.sqT {a : Addr} {vs : List V} (h : SqT K H a vs) : SqT K H' a vs := by
  rcases h with h | h
  · rcases h with h | ⟨o, h⟩
    · exact .inl (.inl (c.im _ _ h rfl))
    · exact .inl (.inr ⟨o, c.im _ _ h rfl⟩)
  · exact .inr h
theorem Lat.rdL {a : Addr} {u : HO} (ha : θ.free a) (h : Rd H a u) (ht : isTbl u = false := by rfl) : θ'.free a ∧ Rd H' a u := by
  rcases h with h | ⟨o, h⟩
  · exact ⟨(c.fr _ _ ha h ht).2, .inl (c.fr _ _ ha h ht).1⟩
  · exact ⟨(c.fr _ _ ha h rfl).2, .inr ⟨o, (c.fr _ _ ha h rfl).1⟩⟩
theorem Lat.at_ {n : Nat} {a : Addr} (hn : θ.h[n]? = some a) : θ'.h[n]? = some a := by
  obtain ⟨l, e⟩ := c.h
  rw [e, List.getElem?_append_left (List.getElem?_eq_some_iff.mp hn).1]
  exact hn
mutual
theorem RD.lat : ∀ {d : D} {v : V}, RD K w θ H d v → RD K w θ' H' d v
  | _, _, .non => .non
  | _, _, .bl b => .bl b
  | _, _, .int i => .int i
  | _, _, .str x => .str x
  | _, _, .tup h r => .tup (c.sqT h) (RDs.lat r)
  | _, _, .tupx h h1 r => .tupx (c.im _ _ h rfl) h1 (RDs.lat r)
  | _, _, .lst ha h r => .lst (c.rdL ha h).1 (c.rdL ha h).2 (RDs.lat r)
  | _, _, .dct ha h h1 h2 h3 r => .dct (c.fr _ _ ha h rfl).2 (c.fr _ _ ha h rfl).1 h1 h2 h3 (REs.lat r)
  | _, _, .obj (n := n) (a := a) h => .obj (c.at_ h)
theorem RDs.lat : ∀ {ds : List D} {vs : List V}, RDs K w θ H ds vs → RDs K w θ' H' ds vs
  | _, _, .nil => .nil
  | _, _, .cons h r => .cons (RD.lat h) (RDs.lat r)
theorem REs.lat : ∀ {ks vs : List D} {ys : List Ent}, REs K w θ H ks vs ys → REs K w θ' H' ks vs ys
  | _, _, _, .nil => .nil
  | _, _, _, .cons h1 h2 h3 h4 h5 r => .cons h1 (RD.lat h2) h3 (RD.lat h4) h5 (REs.lat r)
end
theorem RE.lat : ∀ {ρ : Env} {σ : L2.St}, RE K w θ H ρ σ → RE K w θ' H' ρ σ
  | _, _, .nil => .nil
  | _, _, .val h r => .val (RD.lat c h) (RE.lat r)
  | _, _, .gap r => .gap (RE.lat r)
end
/-- what was none before does not count -/
theorem Ev.skip {θ θ' : Th} {H H1 : Hp} {p : Addr} {u : HO} (e : Ev θ H θ' H1) (hp : H p = none) : Ev θ H θ' (upd H1 p u) := by
  refine ⟨e.pre, fun a o h q => ?_, fun a o h => ?_⟩
  · rw [upd_ne (ne_of_none h hp)]
    exact e.fr a o h q
  · rw [upd_ne (ne_of_none h hp)]
    exact e.on a o h

/-! ### locking -/
/-- d, a dict, is locked or set free again: all that is read stays -/
structure Lck (d : Addr) (θ : Th) (H H' : Hp) : Prop where
  ne : ∀ a, a ≠ d → H' a = H a
  nf : ∀ a ob φ, θ.free a → H a = some (.frz ob (.ext φ)) → a ≠ d
  nl : ∀ vs, ¬ Rd H d (.lst vs)
  nt : ∀ vs, ¬ Rd H d (.tup vs)
section
variable {d : Addr} (c : Lck d θ H H')
include c
theorem Lck.sqT {a : Addr} {vs : List V} (h : SqT K H a vs) : SqT K H' a vs := by
  rcases h with h | h
  · have n : a ≠ d := fun e => c.nt vs (e ▸ h)
    refine .inl ?_
    rcases h with h | ⟨o, h⟩
    · exact .inl (by rw [c.ne a n]; exact h)
    · exact .inr ⟨o, by rw [c.ne a n]; exact h⟩
  · exact .inr h
theorem Lck.rdL {a : Addr} {vs : List V} (h : Rd H a (.lst vs)) : Rd H' a (.lst vs) := by
  have n : a ≠ d := fun e => c.nl vs (e ▸ h)
  rcases h with h | ⟨o, h⟩
  · exact .inl (by rw [c.ne a n]; exact h)
  · exact .inr ⟨o, by rw [c.ne a n]; exact h⟩
mutual
theorem RD.lck : ∀ {d : D} {v : V}, RD K w θ H d v → RD K w θ H' d v
  | _, _, .non => .non
  | _, _, .bl b => .bl b
  | _, _, .int i => .int i
  | _, _, .str x => .str x
  | _, _, .tup h r => .tup (c.sqT h) (RDs.lck r)
  | _, _, .tupx h h1 r => .tupx ((c.ne _ fun e => c.nt _ (by rw [← e]; exact .inr ⟨_, h⟩)).trans h) h1 (RDs.lck r)
  | _, _, .lst ha h r => .lst ha (c.rdL h) (RDs.lck r)
  | _, _, .dct ha h h1 h2 h3 r => .dct ha ((c.ne _ (c.nf _ _ _ ha h)).trans h) h1 h2 h3 (REs.lck r)
  | _, _, .obj (n := n) (a := a) h => .obj h
theorem RDs.lck : ∀ {ds : List D} {vs : List V}, RDs K w θ H ds vs → RDs K w θ H' ds vs
  | _, _, .nil => .nil
  | _, _, .cons h r => .cons (RD.lck h) (RDs.lck r)
theorem REs.lck : ∀ {ks vs : List D} {ys : List Ent}, REs K w θ H ks vs ys → REs K w θ H' ks vs ys
  | _, _, _, .nil => .nil
  | _, _, _, .cons h1 h2 h3 h4 h5 r => .cons h1 (RD.lck h2) h3 (RD.lck h4) h5 (REs.lck r)
end
theorem RE.lck : ∀ {ρ : Env} {σ : L2.St}, RE K w θ H ρ σ → RE K w θ H' ρ σ
  | _, _, .nil => .nil
  | _, _, .val h r => .val (RD.lck c h) (RE.lck r)
  | _, _, .gap r => .gap (RE.lck r)
theorem RO.lckO {a : Addr} {o : IO} (n : a ≠ d) (h : RO K w mg θ H a o) : RO K w mg θ H' a o := by
  cases h with
  | lst h r => exact .lst (by rw [c.ne a n]; exact h) (RDs.lck c r)
  | dct h h1 h2 h3 r => exact .dct (by rw [c.ne a n]; exact h) h1 h2 h3 (REs.lck c r)
  | lck h h1 h2 h3 r => exact .lck (by rw [c.ne a n]; exact h) h1 h2 h3 (REs.lck c r)
  | ins h1 h2 h3 r => exact .ins h1 (by rw [c.ne a n]; exact h2) h3 (RDs.lck c r)
theorem RH.lck {ih : IH} {n : Nat} {o : IO} (h : RH K w mg T θ H ih) (hn : θ.h[n]? = some d) (ho : RO K w mg θ H' d o) : RH K w mg T θ H' (ih.set n o) := by
  have hd : d ∈ θ.h := List.mem_of_getElem? hn
  obtain ⟨v, hv, hvt⟩ := h.mut hd
  refine ⟨h.tab.stay (fun a u q q' => ?_) (fun a q _ => q), fun b hb => ?_, by rw [List.length_set]; exact h.len, h.nd, fun j a o' h1 h2 => ?_⟩
  · rw [c.ne]
    · exact q
    · rintro rfl
      rcases q' with q' | q'
      · exact q'.1 hd
      · rw [hv] at q; cases q; rw [hvt] at q'; cases q'
  · obtain ⟨h1, x, h2, h3⟩ := h.bon b hb
    refine ⟨h1, x, ?_, h3⟩
    rw [c.ne]
    · exact h2
    · rintro rfl
      exact h1 hd
  · by_cases hj : j = n
    · subst hj
      rw [hn] at h1
      cases h1
      have hl := (List.getElem?_eq_some_iff.mp hn).1
      rw [h.len] at hl
      rw [List.getElem?_set_self hl] at h2
      cases h2
      exact ho
    · rw [List.getElem?_set_ne (Ne.symm hj)] at h2
      refine RO.lckO c ?_ (h.at_ j a o' h1 h2)
      rintro rfl
      exact hj ((List.getElem?_inj (List.getElem?_eq_some_iff.mp h1).1 h.nd).mp (h1.trans hn.symm))
end
theorem Lck.on {d : Addr} {od : Obj} {φ : Heap → Prop} (hd : d ∈ θ.h) (h : H d = some (.ext φ)) : Lck d θ H (upd H d (.frz od (.ext φ))) := by
  refine ⟨fun a n => upd_ne n, fun a ob ψ f q => fun e => f.1 (by rw [e]; exact hd), fun vs q => ?_, fun vs q => ?_⟩
  · rcases q with q | ⟨o, q⟩ <;> (rw [h] at q; cases q)
  · rcases q with q | ⟨o, q⟩ <;> (rw [h] at q; cases q)
/-- a dict that is no handle's -/
theorem Lck.frz {d : Addr} {od : Obj} {φ : Heap → Prop} (h : H d = some (.ext φ)) : Lck d θ H (upd H d (.frz od (.ext φ))) := by
  refine ⟨fun a n => upd_ne n, fun a ob ψ f q => fun e => ?_, fun vs q => ?_, fun vs q => ?_⟩
  · rw [e, h] at q; cases q
  · rcases q with q | ⟨o, q⟩ <;> (rw [h] at q; cases q)
  · rcases q with q | ⟨o, q⟩ <;> (rw [h] at q; cases q)
theorem Lck.off {d : Addr} {od : Obj} {φ : Heap → Prop} (hd : d ∈ θ.h) (h : H d = some (.frz od (.ext φ))) : Lck d θ H (upd H d (.ext φ)) := by
  refine ⟨fun a n => upd_ne n, fun a ob ψ f q => fun e => f.1 (by rw [e]; exact hd), fun vs q => ?_, fun vs q => ?_⟩
  · rcases q with q | ⟨o, q⟩ <;> (rw [h] at q; cases q)
  · rcases q with q | ⟨o, q⟩ <;> (rw [h] at q; cases q)
/-- a dict that is no handle's is locked for good -/
theorem RH.frz {ih : IH} {d : Addr} {od : Obj} {φ : Heap → Prop} (h : RH K w mg T θ H ih) (hd : H d = some (.ext φ)) (hh : d ∉ θ.h) (hc : ∀ p ∈ T, ∀ ps, H p.1 = some (.tbl ps) → ∀ pos c, codeAmong pos ps.toList = some (.ref c) → c ≠ d) : RH K w mg T θ (upd H d (.frz od (.ext φ))) ih := by
  have c : Lck d θ H (upd H d (.frz od (.ext φ))) := Lck.frz hd
  refine ⟨fun p hp => ?_, fun b hb => ?_, h.len, h.nd, fun j a o' h1 h2 => RO.lckO c (fun e => hh (e ▸ List.mem_of_getElem? h1)) (h.at_ j a o' h1 h2)⟩
  · obtain ⟨ps, h1, h2, h3⟩ := h.tab p hp
    refine ⟨ps, ?_, h2, fun pos cv hcv => ?_⟩
    · rw [upd_ne]
      · exact h1
      · intro e
        rw [e, hd] at h1
        cases h1
    · obtain ⟨x, e1, e2, e3⟩ := h3 pos cv hcv
      refine ⟨x, e1, e2, ?_⟩
      rw [upd_ne]
      · exact e3
      · exact hc p hp ps h1 pos x (by rw [← e1]; exact hcv)
  · obtain ⟨h1, o, h2, h3⟩ := h.bon b hb
    by_cases e : b = d
    · exact ⟨h1, _, by rw [e]; exact upd_same, rfl⟩
    · exact ⟨h1, o, by rw [upd_ne e]; exact h2, h3⟩
theorem Ev.unlock {d : Addr} {od : Obj} {u : HO} (h : H d = some u) (e : Ev θ (upd H d (.frz od u)) θ' H') : Ev θ H θ' (upd H' d u) := by
  refine ⟨?_, fun a o q z => ?_, fun a o q => ?_⟩
  · obtain ⟨l, e1, e2⟩ := e.pre
    refine ⟨l, e1, fun a ha => ?_⟩
    have z := e2 a ha
    by_cases n : a = d
    · subst n
      rw [upd_same] at z
      cases z
    · rw [upd_ne n] at z
      exact z
  · by_cases n : a = d
    · subst n
      rw [h] at q
      cases q
      exact upd_same
    · rw [upd_ne n]
      exact e.fr a o (by rw [upd_ne n]; exact q) z
  · by_cases n : a = d
    · subst n
      rw [h] at q
      cases q
      exact ⟨_, upd_same, rfl⟩
    · rw [upd_ne n]
      exact e.on a o (by rw [upd_ne n]; exact q)
end
end Gh
end
section
set_option Elab.async false
set_option linter.all false
set_option maxRecDepth 100000
/-! Expressions. -/
namespace Gh
open PySem PySem.Spec PyProof.Rows L2

section
variable (K : PySem.W.Frag) (w : World) (mg : Str → Option Value) (T : List (Addr × Str))
/-- a run that hands back α, as a reading -/
def sim {α β : Type} (R : Th → Hp → α → β → Prop) (m : Env → M α) : L2.St → Hp → (β → Hp → Prop) → Prop := fun σ H Q =>
  ∃ θ ρ ih d ih', RH K w mg T θ H ih ∧ RE K w θ H ρ σ ∧ m ρ ih = some (d, ih') ∧ ∀ θ' H' v, Ev θ H θ' H' → RH K w mg T θ' H' ih' → R θ' H' d v → Q v H'
abbrev simE (m : Env → M D) : TE := sim K w mg T (RD K w) m
abbrev simA (m : Env → M (List D)) : TA := sim K w mg T (RDs K w) m
abbrev simT (m : Env → M Bool) : TT := sim K w mg T (fun _ _ b c => b = c) m
end
abbrev SE (T : List (Addr × Str)) (X : Cx) (e : Expr) (m : Env → M D) : Prop := PE X e (simE X.K X.w X.mg T m)
abbrev SA (T : List (Addr × Str)) (X : Cx) (es : List Expr) (m : Env → M (List D)) : Prop := PA X es (simA X.K X.w X.mg T m)
abbrev ST (T : List (Addr × Str)) (X : Cx) (e : Expr) (m : Env → M Bool) : Prop := PT X e (simT X.K X.w X.mg T m)

section
variable {X : Cx}
theorem _root_.L2.PE.le {e : Expr} {t u : TE} (h : PE X e t) (l : ∀ σ H Q, u σ H Q → t σ H Q) : PE X e u := ⟨fun pins s σ H Q I q => h.run pins s σ H Q I (l σ H Q q)⟩
theorem _root_.L2.PT.le {e : Expr} {t u : TT} (h : PT X e t) (l : ∀ σ H Q, u σ H Q → t σ H Q) : PT X e u := ⟨fun pins s σ H Q I q => h.run pins s σ H Q I (l σ H Q q)⟩
theorem _root_.L2.PA.le {es : List Expr} {t u : TA} (h : PA X es t) (l : ∀ σ H Q, u σ H Q → t σ H Q) : PA X es u := ⟨fun pos pins s σ H Q I q => h.run pos pins s σ H Q I (l σ H Q q)⟩
theorem _root_.L2.PS.le {st : Stmt} {t u : TS} (h : PS X st t) (l : ∀ D σ H, u D σ H → t D σ H) : PS X st u := ⟨fun pins s σ H D I q => h.run pins s σ H D I (l D σ H q)⟩
theorem _root_.L2.PSs.le {st : List Stmt} {t u : TS} (h : PSs X st t) (l : ∀ D σ H, u D σ H → t D σ H) : PSs X st u := ⟨fun pins s σ H D I q => h.run pins s σ H D I (l D σ H q)⟩
end

/-! ### the runs -/
def xVar (i : Nat) : Env → M D := fun ρ ih => match ρ[i]? with
  | some (some d) => some (d, ih)
  | _ => none
def xC (d : D) : Env → M D := fun _ ih => some (d, ih)
def xNil : Env → M (List D) := fun _ ih => some ([], ih)
def xCons (m : Env → M D) (ms : Env → M (List D)) : Env → M (List D) := fun ρ ih => (m ρ ih).bind fun p => (ms ρ p.2).bind fun q => some (p.1 :: q.1, q.2)
def xUn (f : D → M D) (m : Env → M D) : Env → M D := fun ρ ih => (m ρ ih).bind fun p => f p.1 p.2
def xBin (f : D → D → M D) (ma mb : Env → M D) : Env → M D := fun ρ ih => (ma ρ ih).bind fun p => (mb ρ p.2).bind fun q => f p.1 q.1 q.2
def xArgs (f : List D → M D) (m : Env → M (List D)) : Env → M D := fun ρ ih => (m ρ ih).bind fun p => f p.1 p.2
def xIf (c : Env → M Bool) (ma mb : Env → M D) : Env → M D := fun ρ ih => (c ρ ih).bind fun p => if p.1 = true then ma ρ p.2 else mb ρ p.2
def asB : D → Option Bool
  | .bl b => some b
  | _ => none
/-- a test of a bool -/
def tVal (m : Env → M D) : Env → M Bool := fun ρ ih => (m ρ ih).bind fun p => (asB p.1).map fun b => (b, p.2)
def tAnd2 (a b : Env → M Bool) : Env → M Bool := fun ρ ih => (a ρ ih).bind fun p => if p.1 = true then b ρ p.2 else some (false, p.2)
def tOr2 (a b : Env → M Bool) : Env → M Bool := fun ρ ih => (a ρ ih).bind fun p => if p.1 = true then some (true, p.2) else b ρ p.2
def tNot2 (a : Env → M Bool) : Env → M Bool := fun ρ ih => (a ρ ih).bind fun p => some (!p.1, p.2)
def xOfT (a : Env → M Bool) : Env → M D := fun ρ ih => (a ρ ih).bind fun p => some (.bl p.1, p.2)

section
variable {K : PySem.W.Frag} {w : World} {mg : Str → Option Value} {T : List (Addr × Str)}
/-- what a two-place operation by data gives for one by values -/
def V2 (K : PySem.W.Frag) (w : World) (mg : Str → Option Value) (T : List (Addr × Str)) (f : D → D → M D) (r : R2) : Prop :=
  ∀ (θ : Th) (H : Hp) (ih : IH) (a b : D) (x y : V) (d : D) (ih' : IH) (Q : VK), RH K w mg T θ H ih → RD K w θ H a x → RD K w θ H b y → f a b ih = some (d, ih') →
    (∀ θ' H' v, Ev θ H θ' H' → RH K w mg T θ' H' ih' → RD K w θ' H' d v → Q v H') → r x y H Q
def V1 (K : PySem.W.Frag) (w : World) (mg : Str → Option Value) (T : List (Addr × Str)) (f : D → M D) (r : V → Hp → VK → Prop) : Prop :=
  ∀ (θ : Th) (H : Hp) (ih : IH) (a : D) (x : V) (d : D) (ih' : IH) (Q : VK), RH K w mg T θ H ih → RD K w θ H a x → f a ih = some (d, ih') →
    (∀ θ' H' v, Ev θ H θ' H' → RH K w mg T θ' H' ih' → RD K w θ' H' d v → Q v H') → r x H Q
def VN (K : PySem.W.Frag) (w : World) (mg : Str → Option Value) (T : List (Addr × Str)) (f : List D → M D) (r : List V → Hp → VK → Prop) : Prop :=
  ∀ (θ : Th) (H : Hp) (ih : IH) (as : List D) (xs : List V) (d : D) (ih' : IH) (Q : VK), RH K w mg T θ H ih → RDs K w θ H as xs → f as ih = some (d, ih') →
    (∀ θ' H' v, Ev θ H θ' H' → RH K w mg T θ' H' ih' → RD K w θ' H' d v → Q v H') → r xs H Q

theorem sim_bin {f : D → D → M D} {r : R2} {ma mb : Env → M D} (hf : V2 K w mg T f r) (σ : L2.St) (H : Hp) (Q : VK) (h : simE K w mg T (xBin f ma mb) σ H Q) : tOp r (simE K w mg T ma) (simE K w mg T mb) σ H Q := by
  obtain ⟨θ, ρ, ih, d, ih', h1, h2, h3, h4⟩ := h
  unfold xBin at h3
  cases e : ma ρ ih with
  | none => rw [e] at h3; cases h3
  | some p =>
    obtain ⟨a, ih1⟩ := p
    rw [e] at h3
    simp only [Option.bind_some] at h3
    refine ⟨θ, ρ, ih, a, ih1, h1, h2, e, fun θ1 H1 x e1 q1 r1 => ?_⟩
    cases e2 : mb ρ ih1 with
    | none => rw [e2] at h3; cases h3
    | some q =>
      obtain ⟨b, ih2⟩ := q
      rw [e2] at h3
      simp only [Option.bind_some] at h3
      refine ⟨θ1, ρ, ih1, b, ih2, q1, h2.mono e1, e2, fun θ2 H2 y e2 q2 r2 => ?_⟩
      exact hf θ2 H2 ih2 a b x y d ih' Q q2 (r1.mono e2) r2 h3 fun θ' H' v e3 => h4 θ' H' v (e1.trans (e2.trans e3))
theorem sim_un {f : D → M D} {r : V → Hp → VK → Prop} {ma : Env → M D} (hf : V1 K w mg T f r) (σ : L2.St) (H : Hp) (Q : VK) (h : simE K w mg T (xUn f ma) σ H Q) : tUn r (simE K w mg T ma) σ H Q := by
  obtain ⟨θ, ρ, ih, d, ih', h1, h2, h3, h4⟩ := h
  unfold xUn at h3
  cases e : ma ρ ih with
  | none => rw [e] at h3; cases h3
  | some p =>
    obtain ⟨a, ih1⟩ := p
    rw [e] at h3
    exact ⟨θ, ρ, ih, a, ih1, h1, h2, e, fun θ1 H1 x e1 q1 r1 => hf θ1 H1 ih1 a x d ih' Q q1 r1 h3 fun θ' H' v e3 => h4 θ' H' v (e1.trans e3)⟩
theorem sim_args {f : List D → M D} {r : List V → Hp → VK → Prop} {m : Env → M (List D)} (hf : VN K w mg T f r) (σ : L2.St) (H : Hp) (Q : VK) (h : simE K w mg T (xArgs f m) σ H Q) : simA K w mg T m σ H (fun vs H1 => r vs H1 Q) := by
  obtain ⟨θ, ρ, ih, d, ih', h1, h2, h3, h4⟩ := h
  unfold xArgs at h3
  cases e : m ρ ih with
  | none => rw [e] at h3; cases h3
  | some p =>
    obtain ⟨as, ih1⟩ := p
    rw [e] at h3
    exact ⟨θ, ρ, ih, as, ih1, h1, h2, e, fun θ1 H1 xs e1 q1 r1 => hf θ1 H1 ih1 as xs d ih' Q q1 r1 h3 fun θ' H' v e3 => h4 θ' H' v (e1.trans e3)⟩
/-- two rules for one operation -/
theorem V2.or1 {f : D → D → M D} {r r' : R2} (h : V2 K w mg T f r) : V2 K w mg T f (fun x y H Q => r x y H Q ∨ r' x y H Q) := fun θ H ih a b x y d ih' Q h1 h2 h3 h4 h5 => .inl (h θ H ih a b x y d ih' Q h1 h2 h3 h4 h5)

section
variable {X : Cx} {e a b : Expr} {es : List Expr} {pos : Pos} {ma mb : Env → M D} {ms : Env → M (List D)}
theorem se_var {i : Nat} (h : PE X e (tVar i)) : SE T X e (xVar i) := h.le fun σ H Q q => by
  obtain ⟨θ, ρ, ih, d, ih', h1, h2, h3, h4⟩ := q
  unfold xVar at h3
  split at h3
  · rename_i d' hd
    cases h3
    obtain ⟨v, hv, r⟩ := h2.get hd
    exact ⟨v, hv, h4 θ H v (.refl _ _) h1 r⟩
  · cases h3
theorem se_c {d : D} {v : V} (h : PE X e (tC v)) (hr : ∀ θ H, RD X.K X.w θ H d v) : SE T X e (xC d) := h.le fun σ H Q q => by
  obtain ⟨θ, ρ, ih, d, ih', h1, h2, h3, h4⟩ := q
  cases h3
  exact h4 θ H v (.refl _ _) h1 (hr _ _)
theorem se_int {i : Int} {j : Nat} : SE T X (.Constant (.int i) j pos) (xC (.int i)) := se_c pe_int fun _ _ => .int i
theorem sa_nil : SA T X [] xNil := PA.le pa_nil fun σ H Q q => by
  obtain ⟨θ, ρ, ih, d, ih', h1, h2, h3, h4⟩ := q
  cases h3
  exact h4 θ H [] (.refl _ _) h1 .nil
theorem sa_cons (he : SE T X e ma) (hes : SA T X es ms) (hs : starEach (e :: es) X.env = (false, eval e X.env) :: starEach es X.env := by rfl) : SA T X (e :: es) (xCons ma ms) := PA.le (pa_cons he hes hs) fun σ H Q q => by
  obtain ⟨θ, ρ, ih, d, ih', h1, h2, h3, h4⟩ := q
  unfold xCons at h3
  cases e1 : ma ρ ih with
  | none => rw [e1] at h3; cases h3
  | some p =>
    obtain ⟨d1, ih1⟩ := p
    rw [e1] at h3
    simp only [Option.bind_some] at h3
    refine ⟨θ, ρ, ih, d1, ih1, h1, h2, e1, fun θ1 H1 x ev1 q1 r1 => ?_⟩
    cases e2 : ms ρ ih1 with
    | none => rw [e2] at h3; cases h3
    | some q =>
      obtain ⟨ds, ih2⟩ := q
      rw [e2] at h3
      cases h3
      exact ⟨θ1, ρ, ih1, ds, ih2, q1, h2.mono ev1, e2, fun θ2 H2 xs ev2 q2 r2 => h4 θ2 H2 _ (ev1.trans ev2) q2 (.cons (r1.mono ev2) r2)⟩
/-- (a, b, ..) -/
def fTup : List D → M D := fun ds ih => if ds.length ≤ sizeLine then some (.tup ds, ih) else none
theorem se_tup {k : Nat} (h : SA T X es ms) : SE T X (.Tuple es k pos) (xArgs fTup ms) := (pe_tup h).le (sim_args (r := fun vs H1 Q => vs.length ≤ sizeLine ∧ ∀ p, H1 p = none → Q (.ref p) (upd H1 p (.tup vs))) fun θ H ih as xs d ih' Q h1 h2 h3 h4 => by
  unfold fTup at h3
  split at h3
  · rename_i hz
    cases h3
    refine ⟨by rw [h2.length]; exact hz, fun p hp => h4 θ _ _ (Ev.new hp) (h1.new hp) (.tup (.of upd_same) (h2.mono (Ev.new hp)))⟩
  · cases h3)
/-- [a, b, ..] that is never changed; with a handle -/
def fLst : List D → M D := fun ds ih => if ds.length ≤ sizeLine then some (.lst ds, ih) else none
def fLstH : List D → M D := fun ds ih => if ds.length ≤ sizeLine then some (.obj ih.length, ih ++ [.lst ds]) else none
theorem se_lst (h : SA T X es ms) : SE T X (.List es pos) (xArgs fLst ms) := (pe_lst h).le (sim_args (r := fun vs H1 Q => vs.length ≤ sizeLine ∧ ∀ p, H1 p = none → Q (.ref p) (upd H1 p (.lst vs))) fun θ H ih as xs d ih' Q h1 h2 h3 h4 => by
  unfold fLst at h3
  split at h3
  · rename_i hz
    cases h3
    refine ⟨by rw [h2.length]; exact hz, fun p hp => h4 θ _ _ (Ev.new hp) (h1.new hp) (.lst (h1.free_new hp) (.of upd_same) (h2.mono (Ev.new hp)))⟩
  · cases h3)
theorem se_lstH (h : SA T X es ms) : SE T X (.List es pos) (xArgs fLstH ms) := (pe_lst h).le (sim_args (r := fun vs H1 Q => vs.length ≤ sizeLine ∧ ∀ p, H1 p = none → Q (.ref p) (upd H1 p (.lst vs))) fun θ H ih as xs d ih' Q h1 h2 h3 h4 => by
  unfold fLstH at h3
  split at h3
  · rename_i hz
    cases h3
    refine ⟨by rw [h2.length]; exact hz, fun p hp => h4 ⟨θ.h ++ [p], θ.b⟩ _ _ (Ev.made hp) (h1.made hp (.lst upd_same (h2.mono (Ev.made hp)))) (.obj ?_)⟩
    show (θ.h ++ [p])[ih.length]? = some p
    rw [← h1.len, List.getElem?_append_right (Nat.le_refl _)]
    simp
  · cases h3)

theorem se_op {f : D → D → M D} {op : Operator} {r : R2} (hf : V2 X.K X.w X.mg T f r) (ho : OpR X (binaryOp op) r) (ha : SE T X a ma) (hb : SE T X b mb) : SE T X (.BinOp a op b pos) (xBin f ma mb) := (pe_op ho ha hb).le (sim_bin hf)
theorem se_cmp {f : D → D → M D} {op : CmpOp} {r : R2} (hf : V2 X.K X.w X.mg T f r) (ho : OpR X (compareOp op) r) (ha : SE T X a ma) (hb : SE T X b mb) (hm : behindInMarks op b = false) : SE T X (.Compare a [op] [b] pos) (xBin f ma mb) := (pe_cmpR ho ha hb hm).le (sim_bin hf)
theorem sim_test {t : TE} {m : Env → M D} (h : ∀ σ H Q, simE X.K X.w X.mg T m σ H Q → t σ H Q) (σ : L2.St) (H : Hp) (Q : Bool → Hp → Prop) (q : simT X.K X.w X.mg T (tVal m) σ H Q) : tTest t σ H Q := by
  obtain ⟨θ, ρ, ih, d, ih', h1, h2, h3, h4⟩ := q
  unfold tVal at h3
  cases e1 : m ρ ih with
  | none => rw [e1] at h3; cases h3
  | some p =>
    obtain ⟨d1, ih1⟩ := p
    rw [e1] at h3
    simp only [Option.bind_some] at h3
    cases d1 with
    | bl b =>
      cases h3
      refine h σ H _ ⟨θ, ρ, ih, _, _, h1, h2, e1, fun θ1 H1 x ev1 q1 r1 => ?_⟩
      cases r1
      exact ⟨_, rfl, h4 θ1 H1 _ ev1 q1 rfl⟩
    | _ => cases h3
theorem st_cmp {f : D → D → M D} {op : CmpOp} {r : R2} (hf : V2 X.K X.w X.mg T f r) (ho : OpR X (compareOp op) r) (ha : SE T X a ma) (hb : SE T X b mb) (hm : behindInMarks op b = false) : ST T X (.Compare a [op] [b] pos) (tVal (xBin f ma mb)) :=
  (pt_cmpR ho ha hb hm).le (sim_test (sim_bin hf))
theorem st_val (h : SE T X e ma) (he : ∀ whole, isTrue e X.env whole = (do let v ← whole; standAt e.pos; holding [v] (truthy v)) := by intro _; rfl) : ST T X e (tVal ma) := (pt_val h he).le (sim_test fun _ _ _ q => q)
theorem st_not {c : Env → M Bool} (h : ST T X e c) : ST T X (.UnaryOp .Not e pos) (tNot2 c) := (pt_not h).le fun σ H Q q => by
  obtain ⟨θ, ρ, ih, d, ih', h1, h2, h3, h4⟩ := q
  unfold tNot2 at h3
  cases e1 : c ρ ih with
  | none => rw [e1] at h3; cases h3
  | some p =>
    obtain ⟨d1, ih1⟩ := p
    rw [e1] at h3
    cases h3
    exact ⟨θ, ρ, ih, _, _, h1, h2, e1, fun θ1 H1 x ev1 q1 r1 => h4 θ1 H1 _ ev1 q1 (by rw [r1])⟩
/-- and, or as tests: PW -/
abbrev SW (T : List (Addr × Str)) (X : Cx) (e : Expr) (m : Env → M Bool) : Prop := PW X e (simT X.K X.w X.mg T m)
theorem _root_.L2.PW.le {t u : TT} (h : PW X e t) (l : ∀ σ H Q, u σ H Q → t σ H Q) : PW X e u := ⟨fun wh pins s σ H Q I q => h.run wh pins s σ H Q I (l σ H Q q)⟩
theorem sim_and {ca cb : Env → M Bool} (σ : L2.St) (H : Hp) (Q : Bool → Hp → Prop) (q : simT X.K X.w X.mg T (tAnd2 ca cb) σ H Q) : tAnd (simT X.K X.w X.mg T ca) (simT X.K X.w X.mg T cb) σ H Q := by
  obtain ⟨θ, ρ, ih, d, ih', h1, h2, h3, h4⟩ := q
  unfold tAnd2 at h3
  cases e1 : ca ρ ih with
  | none => rw [e1] at h3; cases h3
  | some p =>
    obtain ⟨d1, ih1⟩ := p
    rw [e1] at h3
    simp only [Option.bind_some] at h3
    refine ⟨θ, ρ, ih, _, _, h1, h2, e1, fun θ1 H1 x ev1 q1 r1 => ?_⟩
    subst r1
    cases d1 with
    | true => exact ⟨θ1, ρ, ih1, d, ih', q1, h2.mono ev1, h3, fun θ2 H2 y ev2 => h4 θ2 H2 y (ev1.trans ev2)⟩
    | false =>
      cases h3
      exact h4 θ1 H1 _ ev1 q1 rfl
theorem sim_or {ca cb : Env → M Bool} (σ : L2.St) (H : Hp) (Q : Bool → Hp → Prop) (q : simT X.K X.w X.mg T (tOr2 ca cb) σ H Q) : tOr (simT X.K X.w X.mg T ca) (simT X.K X.w X.mg T cb) σ H Q := by
  obtain ⟨θ, ρ, ih, d, ih', h1, h2, h3, h4⟩ := q
  unfold tOr2 at h3
  cases e1 : ca ρ ih with
  | none => rw [e1] at h3; cases h3
  | some p =>
    obtain ⟨d1, ih1⟩ := p
    rw [e1] at h3
    simp only [Option.bind_some] at h3
    refine ⟨θ, ρ, ih, _, _, h1, h2, e1, fun θ1 H1 x ev1 q1 r1 => ?_⟩
    subst r1
    cases d1 with
    | false => exact ⟨θ1, ρ, ih1, d, ih', q1, h2.mono ev1, h3, fun θ2 H2 y ev2 => h4 θ2 H2 y (ev1.trans ev2)⟩
    | true =>
      cases h3
      exact h4 θ1 H1 _ ev1 q1 rfl
theorem sw_and1 {ca : Env → M Bool} (ha : ST T X a ca) : SW T X (.BoolOp .And [a] pos) ca := pw_and1 ha
theorem sw_or1 {ca : Env → M Bool} (ha : ST T X a ca) : SW T X (.BoolOp .Or [a] pos) ca := pw_or1 ha
theorem sw_and {rest : List Expr} {ca cb : Env → M Bool} (ha : ST T X a ca) (hb : SW T X (.BoolOp .And (b :: rest) pos) cb) : SW T X (.BoolOp .And (a :: b :: rest) pos) (tAnd2 ca cb) := PW.le (pw_and ha hb) sim_and
theorem sw_or {rest : List Expr} {ca cb : Env → M Bool} (ha : ST T X a ca) (hb : SW T X (.BoolOp .Or (b :: rest) pos) cb) : SW T X (.BoolOp .Or (a :: b :: rest) pos) (tOr2 ca cb) := PW.le (pw_or ha hb) sim_or
theorem st_w {c : Env → M Bool} (h : SW T X e c) : ST T X e c := h.pt
theorem se_if {c : Expr} {cc : Env → M Bool} (hc : ST T X c cc) (ha : SE T X a ma) (hb : SE T X b mb) : SE T X (.IfExp c a b pos) (xIf cc ma mb) := (pe_ifExp hc ha hb).le fun σ H Q q => by
  obtain ⟨θ, ρ, ih, d, ih', h1, h2, h3, h4⟩ := q
  unfold xIf at h3
  cases e1 : cc ρ ih with
  | none => rw [e1] at h3; cases h3
  | some p =>
    obtain ⟨d1, ih1⟩ := p
    rw [e1] at h3
    simp only [Option.bind_some] at h3
    refine ⟨θ, ρ, ih, _, _, h1, h2, e1, fun θ1 H1 x ev1 q1 r1 => ?_⟩
    subst r1
    cases d1 with
    | true => exact ⟨θ1, ρ, ih1, d, ih', q1, h2.mono ev1, h3, fun θ2 H2 y ev2 => h4 θ2 H2 y (ev1.trans ev2)⟩
    | false => exact ⟨θ1, ρ, ih1, d, ih', q1, h2.mono ev1, h3, fun θ2 H2 y ev2 => h4 θ2 H2 y (ev1.trans ev2)⟩
end
end
end Gh
end
section
set_option Elab.async false
set_option linter.all false
set_option maxRecDepth 100000
/-! Dicts with keys of any mixture, by values over the abstract heap. -/
namespace Gh
open PySem PySem.Spec PyProof.Rows L2

mutual
inductive KeyV (K : PySem.W.Frag) (H : Hp) : NestedKey → V → Prop
  | non : KeyV K H .none .non
  | bl (b : Bool) : KeyV K H (.num (if b = true then 1 else 0)) (.bl b)
  | int (i : Int) : KeyV K H (.num i) (.int i)
  | str (x : Str) : KeyV K H (.text x) (.str x)
  | tup {a : Addr} {xs : List V} {ks : List NestedKey} : SqT K H a xs → KeyVs K H ks xs → KeyV K H (.tup ks) (.ref a)
inductive KeyVs (K : PySem.W.Frag) (H : Hp) : List NestedKey → List V → Prop
  | nil : KeyVs K H [] []
  | cons {k : NestedKey} {v : V} {ks : List NestedKey} {vs : List V} : KeyV K H k v → KeyVs K H ks vs → KeyVs K H (k :: ks) (v :: vs)
end
section
variable {X : Cx} {pins : List (Addr × Obj)} {σ : L2.St} {H : Hp} {s : Shared}
mutual
theorem KeyV.is (I : Inv X pins σ H s) : ∀ {k : NestedKey} {v : V} {u : Value}, KeyV X.K H k v → RelV v u → NestedIs s.heap k u
  | _, _, _, .non, r => by cases r; exact .none
  | _, _, _, .bl b, r => by cases r; exact .bool rfl
  | _, _, _, .int i, r => by obtain ⟨t, rfl⟩ := r; exact .int i t
  | _, _, _, .str x, r => by obtain ⟨t, rfl⟩ := r; exact .text x t
  | _, _, _, .tup h q, r => by
    cases r
    obtain ⟨its, rv, ⟨o, ho, hc, n, hd⟩, _⟩ := I.tuple h
    exact .tup ho hc hd (by simpa using KeyVs.is I q rv)
theorem KeyVs.is (I : Inv X pins σ H s) : ∀ {ks : List NestedKey} {vs : List V} {us : List Value}, KeyVs X.K H ks vs → Vals vs us → NestedAll s.heap ks us
  | _, _, _, .nil, r => by cases r; exact .nil
  | _, _, _, .cons h q, r => by
    cases r with
    | cons r1 r2 => exact .cons (KeyV.is I h r1) (KeyVs.is I q r2)
end
end

/-- the dict at a with the entries ys -/
structure DH (K : PySem.W.Frag) (w : World) (H : Hp) (a : Addr) (ys : List Ent) : Prop where
  at_ : Rd H a (.ext (DAt w a ys))
  sys : (a == sysModules) = false
  few : ys.length ≤ sizeLine
  nd : (ys.map (·.1)).Nodup
  keys : ∀ y ∈ ys, ∃ kv, RelV kv y.2.1 ∧ KeyV K H y.1 kv ∧ y.1.depth ≤ 8
section
variable {X : Cx} {pins : List (Addr × Obj)} {σ : L2.St} {H : Hp} {s : Shared} {a : Addr} {ys : List Ent}
theorem DH.dat (h : DH X.K X.w H a ys) (I : Inv X pins σ H s) : DAt X.w a ys s.heap ∧ DKeys s.heap ys :=
  ⟨(h.at_.ok I.hok).1, fun y hy => by
    obtain ⟨kv, r, k, d⟩ := h.keys y hy
    exact ⟨k.is I r, d⟩, h.nd⟩
theorem DH.key {k : NestedKey} {v : V} {u : Value} (I : Inv X pins σ H s) (hk : KeyV X.K H k v) (hd : k.depth ≤ 8) (r : RelV v u) : KeyIs s.heap k u := ⟨hk.is I r, hd⟩
theorem DAt.ext {w : World} {h : Heap} (x : DAt w a ys h) {P : Program} {H : Hp} : ObjOk P w H h a (.ext (DAt w a ys)) := by
  refine ⟨x, ?_, fun h1 h2 q e => ?_⟩
  · obtain ⟨o, _, _, ho, _⟩ := x
    exact ⟨o, ho⟩
  · obtain ⟨o, es, ep, ho, r⟩ := q
    exact ⟨o, es, ep, e _ ho, r⟩
theorem DH.inv {ys' : List Ent} {h' : Heap} {t' : Nat} (h : H a = some (.ext (DAt X.w a ys))) (I : Inv X pins σ H s) (d : DAt X.w a ys' h') (sb : Heap.SameBut a s.heap h') : Inv X pins σ (upd H a (.ext (DAt X.w a ys'))) { s with heap := h', toks := t' } := by
  obtain ⟨o, _, _, ho, _⟩ := id d
  exact I.write (x := a) (e := a) (by rw [h]; trivial) (.inl rfl) (fun b u hb q => (sb.2 b hb).trans q) ⟨o, ho⟩ d.ext
theorem units_in1 {A : Around} (h : A.units + 64 < cLine) : A.in1.units + 8 < cLine := by show A.units + 1 + 8 < cLine; omega

theorem op_inD (hu : X.A.units + 64 < cLine) : OpR X (compareOp .In) (fun x y H Q => ∃ a ys k, y = .ref a ∧ DH X.K X.w H a ys ∧ KeyV X.K H k x ∧ k.depth ≤ 8 ∧ Q (.bl (lookE ys k).isSome) H) := by
  intro pins s σ H x y v u Q I rx ry h
  obtain ⟨a, ys, k, rfl, hD, hk, hd, q⟩ := h
  cases ry
  obtain ⟨h1, h2⟩ := hD.dat I
  exact in_key (units_in1 hu) (DH.key I hk hd rx) hD.sys h1 h2 ⟨.bl _, H, I.tok _, rfl, q⟩
theorem op_notinD (hu : X.A.units + 64 < cLine) : OpR X (compareOp .NotIn) (fun x y H Q => ∃ a ys k, y = .ref a ∧ DH X.K X.w H a ys ∧ KeyV X.K H k x ∧ k.depth ≤ 8 ∧ Q (.bl (!(lookE ys k).isSome)) H) := by
  intro pins s σ H x y v u Q I rx ry h
  obtain ⟨a, ys, k, rfl, hD, hk, hd, q⟩ := h
  cases ry
  obtain ⟨h1, h2⟩ := hD.dat I
  exact notin_key (units_in1 hu) (DH.key I hk hd rx) hD.sys h1 h2 ⟨.bl _, H, I.tok _, rfl, q⟩
def rIxD (K : PySem.W.Frag) (w : World) : R2 := fun x y H Q => ∃ a ys k v u, x = .ref a ∧ DH K w H a ys ∧ KeyV K H k y ∧ k.depth ≤ 8 ∧ lookE ys k = some u ∧ RelV v u ∧ Q v H
theorem ix_dictA (hu : X.A.units + 64 < cLine) : IxR X (rIxD X.K X.w) := by
  intro value slice pins s σ H x y v u Q I rx ry h hs
  obtain ⟨a, ys, k, z, zu, rfl, hD, hk, hd, hl, rz, q⟩ := h
  cases rx
  obtain ⟨h1, h2⟩ := hD.dat I
  exact tail_any h1.typeIs PySem.F.slot_dict_getitem.lookup (item_key (units_in1 hu) (DH.key I hk hd ry) h1 h2 hl ⟨z, H, I.tok _, rz, q⟩) hs
def rSetD (K : PySem.W.Frag) (w : World) : TSet := fun o i v H Q => ∃ a ys k, o = .ref a ∧ H a = some (.ext (DAt w a ys)) ∧ DH K w H a ys ∧ KeyV K H k i ∧ k.depth ≤ 8 ∧
  ∀ ku vu, RelV i ku → RelV v vu → Q (upd H a (.ext (DAt w a (putE ys k ku vu))))
theorem set_dictA (hu : X.A.units + 64 < cLine) : PSet X (rSetD X.K X.w) := by
  intro pins s σ H o i v ov iv u Q I ro ri rv h
  obtain ⟨a, ys, k, rfl, ha, hD, hk, hd, q⟩ := h
  cases ro
  obtain ⟨h1, h2⟩ := hD.dat I
  exact setitem_key (units_in1 hu) (DH.key I hk hd ri) h1 h2 hD.few fun h' d sb => ⟨_, DH.inv ha (t' := s.toks + k.draws) I d sb, q iv u ri rv⟩
theorem call_lenD : CallR X (.builtin "len") (fun xs H Q => ∃ a ys, xs = [.ref a] ∧ DH X.K X.w H a ys ∧ Q (.int ys.length) H) := by
  intro pins s σ H xs us Q I r h
  obtain ⟨a, ys, rfl, hD, q⟩ := h
  obtain ⟨u, rfl, rx⟩ := vals1 r
  cases rx
  obtain ⟨⟨o, es, ep, ho, hc, hd, he⟩, _⟩ := hD.dat I
  have hsz : es.size = ys.length := by rw [← Array.length_toList, he, List.length_map]
  have hn := line63
  have hz := hD.few
  refine call_len_slot (n := (es.size : Int)) ⟨o, ho, hc.1⟩ PySem.F.slot_dict_len (fun Q' hq => call_len_raw hD.sys ⟨o, ho, hc, hd⟩ hq) (by omega) (by omega) ⟨.int _, H, I.tok _, ⟨_, by rw [hsz]⟩, q⟩

/-! ### methods -/
def tBMX (TY : V → Hp → Prop) (r : V → List V → Hp → VK → Prop) (to : TE) (t : TA) : TE := fun σ H Q => to σ H fun x H1 => TY x H1 ∧ t σ H1 fun xs H2 => r x xs H2 Q
def TyOk (X : Cx) (T : String) (TY : V → Hp → Prop) : Prop := ∀ (pins : List (Addr × Obj)) (s : Shared) (σ : L2.St) (H : Hp) (x : V) (v : Value), Inv X pins σ H s → RelV x v → TY x H → s.TypeIs v T ∧ ∀ a, v = .ref a → ∃ ob, s.heap.get? a = some ob ∧ ob.dict = none
variable {o e : Expr} {es : List Expr} {to : TE} {t : TA} {name : Str} {apos cpos : Pos} {T id : String} {r : V → List V → Hp → VK → Prop} {TY : V → Hp → Prop}
theorem pe_bmX0 (ty : TyOk X T TY) (pa : PlainAttrs T) (slot : Slot T name id) (hty : typeOf (.builtin id) = pure (.type "method_descriptor")) (hm : MtR X id r) (ho : PE X o to)
    (hbase : attributeBase o name X.env (eval o X.env) = eval o X.env := by rfl) (hline : (apos.endLine == cpos.line) = true := by rfl) : PE X (.Call (.Attribute o name apos) [] [] cpos) (tBMX TY r to tNil) := by
  refine ⟨fun pins s σ H Q I h => ?_⟩
  refine wpAny_Call_method0_late hbase hline (thn (ho.run pins s σ H _ I h) fun v s1 ⟨x, H1, I1, r1, tx, q1⟩ => ?_)
  obtain ⟨h1, h2⟩ := ty _ _ _ _ _ _ I1 r1 tx
  exact ⟨T, id, pa, slot, hty, h1, h2, Calls.callWith_builtin rfl (PySem.evalArgs_none (hm pins s1 σ H1 x [] v [] Q I1 r1 .nil q1))⟩
theorem pe_bmX (ty : TyOk X T TY) (pa : PlainAttrs T) (slot : Slot T name id) (hty : typeOf (.builtin id) = pure (.type "method_descriptor")) (hm : MtR X id r) (ho : PE X o to) (ha : PA X (e :: es) t)
    (hbase : attributeBase o name X.env (eval o X.env) = eval o X.env := by rfl)
    (hfew : ((backTo cpos (starEach (e :: es) X.env)).all (fun x => !x.1) && (backToKw cpos (keywordEach [] X.env)).all (fun x => x.1.isSome)
      && decide ((e :: es).length + ([] : List Keyword).length + (if ([] : List Keyword).isEmpty then 0 else 1) < 30)) = true := by rfl)
    (hline : (apos.endLine == cpos.line) = true := by rfl) (hs : starEach (e :: es) X.env = (false, eval e X.env) :: starEach es X.env := by rfl) (hplain : (backTo cpos (starEach es X.env)).any (·.1) = false := by rfl) :
    PE X (.Call (.Attribute o name apos) (e :: es) [] cpos) (tBMX TY r to t) := by
  refine ⟨fun pins s σ H Q I h => ?_⟩
  refine wpAny_Call_method_late hbase hfew hline rfl (thn (ho.run pins s σ H _ I h) fun v s1 ⟨x, H1, I1, r1, tx, q1⟩ => ?_)
  obtain ⟨h1, h2⟩ := ty _ _ _ _ _ _ I1 r1 tx
  refine ⟨T, id, pa, slot, hty, h1, h2, ?_⟩
  have hA := ha.run cpos pins s1 σ H1 _ I1 q1
  rw [hs] at hA ⊢
  refine Calls.callWith_builtin (by show (false || (backTo cpos (starEach es X.env)).any (·.1)) = false; rw [hplain] <;> rfl) (Calls.evalArgs_plain ?_)
  exact thn hA fun us s2 ⟨vs, H2, I2, r2, q2⟩ => hm pins s2 σ H2 x vs v us Q I2 r1 r2 q2
def tyD (X : Cx) : V → Hp → Prop := fun x H => ∃ a ys, x = .ref a ∧ DH X.K X.w H a ys
theorem tyD_ok : TyOk X "dict" (tyD X) := by
  intro pins s σ H x v I r h
  obtain ⟨a, ys, rfl, hD⟩ := h
  cases r
  obtain ⟨⟨o, es, ep, ho, hc, _⟩, _⟩ := hD.dat I
  refine ⟨⟨o, ho, hc.1⟩, fun b e => ?_⟩
  cases e
  exact ⟨o, ho, hc.2.1⟩
theorem mt_getA (hu : X.A.units + 64 < cLine) : MtR X "dict.get" (fun x xs H Q => ∃ a ys k kv, x = .ref a ∧ DH X.K X.w H a ys ∧ KeyV X.K H k kv ∧ k.depth ≤ 8 ∧
    ((xs = [kv] ∧ (lookE ys k = none → Q .non H)) ∨ ∃ d, xs = [kv, d] ∧ (lookE ys k = none → Q d H)) ∧ ∀ u, lookE ys k = some u → ∃ v, RelV v u ∧ Q v H) := by
  intro pins s σ H x xs v us Q I rx rs h
  obtain ⟨a, ys, k, kv, rfl, hD, hk, hd, hx, q2⟩ := h
  cases rx
  obtain ⟨h1, h2⟩ := hD.dat I
  rcases hx with ⟨rfl, q1⟩ | ⟨d, rfl, q1⟩
  · obtain ⟨u, rfl, ru⟩ := vals1 rs
    refine call_get2 (units_in1 hu) (DH.key I hk hd ru) hD.sys h1 h2 ?_
    cases e : lookE ys k with
    | none => exact ⟨.non, H, I.tok _, rfl, q1 e⟩
    | some z =>
      obtain ⟨zv, rz, q⟩ := q2 z e
      exact ⟨zv, H, I.tok _, rz, q⟩
  · obtain ⟨u1, u2, rfl, r1, r2⟩ := vals2 rs
    refine call_get3 (units_in1 hu) (DH.key I hk hd r1) hD.sys h1 h2 ?_
    cases e : lookE ys k with
    | none => exact ⟨d, H, I.tok _, r2, q1 e⟩
    | some z =>
      obtain ⟨zv, rz, q⟩ := q2 z e
      exact ⟨zv, H, I.tok _, rz, q⟩
theorem mt_setdA (hu : X.A.units + 64 < cLine) : MtR X "dict.setdefault" (fun x xs H Q => ∃ a ys k kv d, x = .ref a ∧ xs = [kv, d] ∧ H a = some (.ext (DAt X.w a ys)) ∧ DH X.K X.w H a ys ∧ KeyV X.K H k kv ∧ k.depth ≤ 8 ∧
    (∀ u, lookE ys k = some u → ∃ v, RelV v u ∧ Q v H) ∧ (lookE ys k = none → ∀ ku vu, RelV kv ku → RelV d vu → Q d (upd H a (.ext (DAt X.w a (putE ys k ku vu)))))) := by
  intro pins s σ H x xs v us Q I rx rs h
  obtain ⟨a, ys, k, kv, d, rfl, rfl, ha, hD, hk, hd, q1, q2⟩ := h
  cases rx
  obtain ⟨h1, h2⟩ := hD.dat I
  obtain ⟨u1, u2, rfl, r1, r2⟩ := vals2 rs
  refine call_setd (units_in1 hu) (DH.key I hk hd r1) hD.sys h1 h2 hD.few (fun u hl => ?_) fun hn h' dd sb => ?_
  · obtain ⟨z, rz, q⟩ := q1 u hl
    exact ⟨z, H, I.tok _, rz, q⟩
  · exact ⟨d, _, DH.inv ha (t' := s.toks + k.draws) I dd sb, r2, q2 hn u1 u2 r1 r2⟩
/-- {} -/
theorem pe_dnewA {pos : Pos} : PE X (.Dict [] [] pos) (fun σ H Q => ∀ p, H p = none → (p == sysModules) = false → Q (.ref p) (upd H p (.ext (DAt X.w p [])))) := ⟨fun pins s σ H Q I h => by
  refine wpAny_Dict_empty ⟨.ref s.heap.objs.size, _, I.laid (a := s.heap.objs.size) (o := .ext (DAt X.w s.heap.objs.size [])) (t' := s.toks) (fun _ _ q => Heap.get?_push_of_some _ q) (Nat.le_refl _) ?_, rfl, h _ (I.hok.fresh (Nat.le_refl _)) ?_⟩
  · exact DAt.ext ⟨_, #[], 0, Heap.get?_push_size _ rfl, ⟨rfl, rfl, rfl⟩, rfl, rfl⟩
  · exact beq_eq_false_iff_ne.mpr (Ne.symm (Nat.ne_of_lt I.big))⟩
end
end Gh
end
section
set_option Elab.async false
set_option linter.all false
set_option maxRecDepth 100000
/-! Operations on dicts, by data. -/
namespace Gh
open PySem PySem.Spec PyProof.Rows L2

def dlook (kvs : List (D × D)) (k : NestedKey) : Option D := (kvs.find? fun p => decide (hkey p.1 = some k)).map (·.2)
def dput (kvs : List (D × D)) (kd : D) (k : NestedKey) (d : D) : List (D × D) := if (dlook kvs k).isSome then kvs.map (fun p => if hkey p.1 = some k then (p.1, d) else p) else kvs ++ [(kd, d)]

section
variable {K : PySem.W.Frag} {w : World} {mg : Str → Option Value} {T : List (Addr × Str)} {θ θ' : Th} {H H' : Hp}
mutual
theorem RD.key : ∀ {d : D} {v : V} {k : NestedKey}, RD K w θ H d v → keyOf d = some k → KeyV K H k v
  | _, _, _, .non, h => by cases h; exact .non
  | _, _, _, .bl b, h => by cases h; exact .bl b
  | _, _, _, .int i, h => by cases h; exact .int i
  | _, _, _, .str x, h => by cases h; exact .str x
  | _, _, _, .tup (ds := ds) q r, h => by
    unfold keyOf at h
    cases e : keysOf ds with
    | none => rw [e] at h; cases h
    | some ks =>
      rw [e] at h
      cases h
      exact .tup q (RDs.keys r e)
  | _, _, _, .tupx _ _ _, h => by cases h
  | _, _, _, .lst _ _ _, h => by cases h
  | _, _, _, .dct _ _ _ _ _ _, h => by cases h
  | _, _, _, .obj _, h => by cases h
theorem RDs.keys : ∀ {ds : List D} {vs : List V} {ks : List NestedKey}, RDs K w θ H ds vs → keysOf ds = some ks → KeyVs K H ks vs
  | _, _, _, .nil, h => by cases h; exact .nil
  | _, _, _, .cons (d := d) (ds := ds) q r, h => by
    unfold keysOf at h
    cases e : keyOf d with
    | none => rw [e] at h; cases h
    | some k =>
      rw [e] at h
      simp only [Option.bind_some] at h
      cases e2 : keysOf ds with
      | none => rw [e2] at h; cases h
      | some ks' =>
        rw [e2] at h
        cases h
        exact .cons (RD.key q e) (RDs.keys r e2)
end
theorem REs.keys : ∀ {ks vs : List D} {ys : List Ent}, REs K w θ H ks vs ys → ∀ y ∈ ys, ∃ kv, RelV kv y.2.1 ∧ KeyV K H y.1 kv ∧ y.1.depth ≤ 8
  | _, _, _, .nil, y, hy => by cases hy
  | _, _, _, .cons h1 h2 h3 h4 h5 r, y, hy => by
    rcases List.mem_cons.mp hy with rfl | hy
    · exact ⟨_, h3, h2.key (hkey_some h1).1, (hkey_some h1).2⟩
    · exact REs.keys r y hy
theorem REs.length : ∀ {ks vs : List D} {ys : List Ent}, REs K w θ H ks vs ys → ys.length = ks.length ∧ vs.length = ks.length
  | _, _, _, .nil => ⟨rfl, rfl⟩
  | _, _, _, .cons _ _ _ _ _ r => by
    obtain ⟨a, b⟩ := REs.length r
    exact ⟨by rw [List.length_cons, List.length_cons, a], by rw [List.length_cons, List.length_cons, b]⟩
theorem REs.look {k : NestedKey} : ∀ {kvs : List (D × D)} {ys : List Ent}, REs K w θ H (kvs.map (·.1)) (kvs.map (·.2)) ys →
    (dlook kvs k = none ∧ lookE ys k = none) ∨ ∃ d u v, dlook kvs k = some d ∧ lookE ys k = some u ∧ RelV v u ∧ RD K w θ H d v
  | [], ys, h => by
    cases h
    exact .inl ⟨rfl, rfl⟩
  | p :: kvs, ys, h => by
    cases h with
    | @cons _ _ k' kv vv ku vu _ _ ys' h1 h2 h3 h4 h5 r =>
      have h1 : hkey p.1 = some k' := h1
      by_cases e : k' = k
      · subst e
        refine .inr ⟨p.2, vu, vv, ?_, ?_, h5, h4⟩
        · unfold dlook
          rw [List.find?_cons]
          simp [h1]
        · simp [lookE]
      · have e1 : dlook (p :: kvs) k = dlook kvs k := by
          unfold dlook
          rw [List.find?_cons]
          simp [h1, e]
        have e2 : lookE ((k', ku, vu) :: ys') k = lookE ys' k := by
          unfold lookE
          rw [List.find?_cons]
          simp [e]
        rw [e1, e2]
        exact REs.look r
theorem REs.app {kd d : D} {k : NestedKey} {kv v : V} {ku vu : Value} (h1 : hkey kd = some k) (h2 : RD K w θ H kd kv) (h3 : RelV kv ku) (h4 : RD K w θ H d v) (h5 : RelV v vu) :
    ∀ {ks vs : List D} {ys : List Ent}, REs K w θ H ks vs ys → REs K w θ H (ks ++ [kd]) (vs ++ [d]) (ys ++ [(k, ku, vu)])
  | _, _, _, .nil => .cons h1 h2 h3 h4 h5 .nil
  | _, _, _, .cons q1 q2 q3 q4 q5 r => .cons q1 q2 q3 q4 q5 (REs.app h1 h2 h3 h4 h5 r)
theorem REs.upd {d : D} {k : NestedKey} {v : V} {vu : Value} (h4 : RD K w θ H d v) (h5 : RelV v vu) : ∀ {kvs : List (D × D)} {ys : List Ent}, REs K w θ H (kvs.map (·.1)) (kvs.map (·.2)) ys →
    REs K w θ H ((kvs.map (fun p => if hkey p.1 = some k then (p.1, d) else p)).map (·.1)) ((kvs.map (fun p => if hkey p.1 = some k then (p.1, d) else p)).map (·.2)) (ys.map (putV k vu))
  | [], ys, h => by
    cases h
    exact .nil
  | p :: kvs, ys, h => by
    cases h with
    | @cons _ _ k' kv vv ku vu' _ _ ys' h1 h2 h3 q4 q5 r =>
      have h1 : hkey p.1 = some k' := h1
      have ih := REs.upd (k := k) h4 h5 r
      by_cases e : k' = k
      · subst e
        rw [List.map_cons, List.map_cons, List.map_cons, List.map_cons, if_pos h1]
        have : putV k' vu (k', ku, vu') = (k', ku, vu) := by simp [putV]
        rw [this]
        exact .cons h1 h2 h3 h4 h5 ih
      · have e' : ¬ hkey p.1 = some k := by rw [h1]; exact fun q => e (Option.some.inj q)
        rw [List.map_cons, List.map_cons, List.map_cons, List.map_cons, if_neg e']
        have : putV k vu (k', ku, vu') = (k', ku, vu') := by simp [putV, e]
        rw [this]
        exact .cons h1 h2 h3 q4 q5 ih
theorem REs.put {kd d : D} {k : NestedKey} {kv v : V} {ku vu : Value} (h1 : hkey kd = some k) (h2 : RD K w θ H kd kv) (h3 : RelV kv ku) (h4 : RD K w θ H d v) (h5 : RelV v vu) {kvs : List (D × D)} {ys : List Ent}
    (r : REs K w θ H (kvs.map (·.1)) (kvs.map (·.2)) ys) : REs K w θ H ((dput kvs kd k d).map (·.1)) ((dput kvs kd k d).map (·.2)) (putE ys k ku vu) := by
  unfold dput putE
  rcases r.look (k := k) with ⟨e1, e2⟩ | ⟨d', u', v', e1, e2, _⟩
  · rw [e1, e2, if_neg (by simp), if_neg (by simp), List.map_append, List.map_append]
    exact REs.app h1 h2 h3 h4 h5 r
  · rw [e1, e2, if_pos (by simp), if_pos (by simp)]
    exact REs.upd h4 h5 r
theorem lookE_mem {ys : List Ent} {k : NestedKey} : lookE ys k = none → k ∉ ys.map (·.1) := fun h hm => by
  obtain ⟨y, hy, rfl⟩ := List.mem_map.mp hm
  unfold lookE at h
  rw [Option.map_eq_none_iff, List.find?_eq_none] at h
  exact h y hy (decide_eq_true rfl)
theorem putE_nd {ys : List Ent} {k : NestedKey} {ku vu : Value} (h : (ys.map (·.1)).Nodup) : ((putE ys k ku vu).map (·.1)).Nodup := by
  unfold putE
  cases e : lookE ys k with
  | some u => rw [if_pos (by simp), put_keys]; exact h
  | none =>
    rw [if_neg (by simp), List.map_append, List.nodup_append]
    refine ⟨h, by simp, fun a ha b hb => ?_⟩
    have hb' : b = k := by simpa using hb
    subst hb'
    exact fun q => lookE_mem e (q ▸ ha)
theorem putE_len {ys : List Ent} {k : NestedKey} {ku vu : Value} : (putE ys k ku vu).length = if (lookE ys k).isSome then ys.length else ys.length + 1 := by
  unfold putE
  split <;> simp

/-- a dict's pairs -/
def getKvs (d : D) (ih : IH) : Option (List (D × D)) := match d with
  | .dct ks vs => some (ks.zip vs)
  | .obj n => match ih[n]? with
    | some (.dct kvs) => some kvs
    | some (.lck kvs) => some kvs
    | _ => none
  | _ => none
theorem zip_fst {α β : Type} : ∀ {ks : List α} {vs : List β}, vs.length = ks.length → (ks.zip vs).map (·.1) = ks ∧ (ks.zip vs).map (·.2) = vs
  | [], [], _ => ⟨rfl, rfl⟩
  | [], _ :: _, h => by simp at h
  | _ :: _, [], h => by simp at h
  | k :: ks, v :: vs, h => by
    obtain ⟨a, b⟩ := zip_fst (ks := ks) (vs := vs) (by simpa using h)
    simp [a, b]
theorem getKvs_dh {ih : IH} (h : RH K w mg T θ H ih) {d : D} {x : V} {kvs : List (D × D)} (r : RD K w θ H d x) (e : getKvs d ih = some kvs) : ∃ a ys, x = .ref a ∧ DH K w H a ys ∧ REs K w θ H (kvs.map (·.1)) (kvs.map (·.2)) ys := by
  cases r with
  | dct ha h1 h2 h3 h4 r =>
    cases e
    obtain ⟨e1, e2⟩ := zip_fst r.length.2
    rw [e1, e2]
    exact ⟨_, _, rfl, ⟨.inr ⟨_, h1⟩, h2, h3, h4, r.keys⟩, r⟩
  | @obj n a hn =>
    unfold getKvs at e
    simp only at e
    split at e
    · rename_i kvs' hk
      cases e
      have ro := h.at_ n a _ hn hk
      cases ro with
      | dct h1 h2 h3 h4 r => exact ⟨_, _, rfl, ⟨.inl h1, h2, h3, h4, r.keys⟩, r⟩
    · rename_i kvs' hk
      cases e
      have ro := h.at_ n a _ hn hk
      cases ro with
      | lck h1 h2 h3 h4 r => exact ⟨_, _, rfl, ⟨.inr ⟨_, h1⟩, h2, h3, h4, r.keys⟩, r⟩
    · cases e
  | _ => cases e
end

/-! ### the operations -/
def fInD (a b : D) : M D := fun ih => (getKvs b ih).bind fun kvs => (hkey a).map fun k => (.bl (dlook kvs k).isSome, ih)
def fNotInD (a b : D) : M D := fun ih => (getKvs b ih).bind fun kvs => (hkey a).map fun k => (.bl (!(dlook kvs k).isSome), ih)
def fIxD (a b : D) : M D := fun ih => (getKvs a ih).bind fun kvs => (hkey b).bind fun k => (dlook kvs k).map fun d => (d, ih)
section
variable {K : PySem.W.Frag} {w : World} {mg : Str → Option Value} {T : List (Addr × Str)}
theorem v2_inD : V2 K w mg T fInD (fun x y H Q => ∃ a ys k, y = .ref a ∧ DH K w H a ys ∧ KeyV K H k x ∧ k.depth ≤ 8 ∧ Q (.bl (lookE ys k).isSome) H) := by
  intro θ H ih a b x y d ih' Q h1 h2 h3 h4 h5
  unfold fInD at h4
  cases e : getKvs b ih with
  | none => rw [e] at h4; cases h4
  | some kvs =>
    rw [e] at h4
    simp only [Option.bind_some] at h4
    cases e2 : hkey a with
    | none => rw [e2] at h4; cases h4
    | some k =>
      rw [e2] at h4
      cases h4
      obtain ⟨p, ys, rfl, hD, r⟩ := getKvs_dh h1 h3 e
      refine ⟨p, ys, k, rfl, hD, h2.key (hkey_some e2).1, (hkey_some e2).2, h5 θ H _ (.refl _ _) h1 ?_⟩
      rcases r.look (k := k) with ⟨q1, q2⟩ | ⟨d', u', v', q1, q2, _⟩
      · rw [q1, q2]; exact .bl _
      · rw [q1, q2]; exact .bl _
theorem v2_notinD : V2 K w mg T fNotInD (fun x y H Q => ∃ a ys k, y = .ref a ∧ DH K w H a ys ∧ KeyV K H k x ∧ k.depth ≤ 8 ∧ Q (.bl (!(lookE ys k).isSome)) H) := by
  intro θ H ih a b x y d ih' Q h1 h2 h3 h4 h5
  unfold fNotInD at h4
  cases e : getKvs b ih with
  | none => rw [e] at h4; cases h4
  | some kvs =>
    rw [e] at h4
    simp only [Option.bind_some] at h4
    cases e2 : hkey a with
    | none => rw [e2] at h4; cases h4
    | some k =>
      rw [e2] at h4
      cases h4
      obtain ⟨p, ys, rfl, hD, r⟩ := getKvs_dh h1 h3 e
      refine ⟨p, ys, k, rfl, hD, h2.key (hkey_some e2).1, (hkey_some e2).2, h5 θ H _ (.refl _ _) h1 ?_⟩
      rcases r.look (k := k) with ⟨q1, q2⟩ | ⟨d', u', v', q1, q2, _⟩
      · rw [q1, q2]; exact .bl _
      · rw [q1, q2]; exact .bl _
theorem v2_ixD : V2 K w mg T fIxD (rIxD K w) := by
  intro θ H ih a b x y d ih' Q h1 h2 h3 h4 h5
  unfold fIxD at h4
  cases e : getKvs a ih with
  | none => rw [e] at h4; cases h4
  | some kvs =>
    rw [e] at h4
    simp only [Option.bind_some] at h4
    cases e2 : hkey b with
    | none => rw [e2] at h4; cases h4
    | some k =>
      rw [e2] at h4
      simp only [Option.bind_some] at h4
      obtain ⟨p, ys, rfl, hD, r⟩ := getKvs_dh h1 h2 e
      rcases r.look (k := k) with ⟨q1, q2⟩ | ⟨d', u', v', q1, q2, q3, q4⟩
      · rw [q1] at h4; cases h4
      · rw [q1] at h4
        cases h4
        exact ⟨p, ys, k, v', u', rfl, hD, h3.key (hkey_some e2).1, (hkey_some e2).2, q2, q3, h5 θ H _ (.refl _ _) h1 q4⟩
/-- d[k] = v -/
def wSetD (o i v : D) (ih : IH) : Option IH := match o with
  | .obj n => match ih[n]? with
    | some (.dct kvs) => (hkey i).bind fun k => if kvs.length < sizeLine then some (ih.set n (.dct (dput kvs i k v))) else none
    | _ => none
  | _ => none
theorem setD_ok {θ : Th} {H : Hp} {ih ih' : IH} {o i d : D} {x y v : V} {Q : Hp → Prop} (h1 : RH K w mg T θ H ih) (ho : RD K w θ H o x) (hi : RD K w θ H i y) (hv : RD K w θ H d v) (e : wSetD o i d ih = some ih')
    (q : ∀ H', Ev θ H θ H' → RH K w mg T θ H' ih' → Q H') : rSetD K w x y v H Q := by
  unfold wSetD at e
  cases ho with
  | @obj n a hn =>
    simp only at e
    split at e
    · rename_i kvs hk
      cases e2 : hkey i with
      | none => rw [e2] at e; cases e
      | some k =>
        rw [e2] at e
        simp only [Option.bind_some] at e
        split at e
        · rename_i hz
          cases e
          have ro := h1.at_ n a _ hn hk
          cases ro with
          | @dct _ ys q1 q2 q3 q4 r =>
            refine ⟨a, ys, k, rfl, q1, ⟨.inl q1, q2, q3, q4, r.keys⟩, hi.key (hkey_some e2).1, (hkey_some e2).2, fun ku vu rk rv => ?_⟩
            have hl := r.length.1
            rw [List.length_map] at hl
            have ev : Ev θ H θ (L2.upd H a (.ext (DAt w a (putE ys k ku vu)))) := Ev.set (List.mem_of_getElem? hn) q1 rfl rfl
            obtain ⟨s1, s2⟩ := h1.set (o := .dct (dput kvs i k d)) hn q1 rfl (.dct upd_same q2 (by rw [putE_len]; split <;> omega) (putE_nd q4) ((REs.put e2 hi rk hv rv r).mono ev))
            exact q _ s2 s1
        · cases e
    · cases e
  | _ => cases e
end
end Gh
end
section
set_option Elab.async false
set_option linter.all false
set_option maxRecDepth 100000
/-! Operations on numbers, tuples, lists, by data. -/
namespace Gh
open PySem PySem.Spec PyProof.Rows L2

/-! ### numbers -/
def fInt2 (C : Int → Int → Bool) (g : Int → Int → D) (a b : D) : M D := fun ih => match a, b with
  | .int i, .int j => if C i j = true then some (g i j, ih) else none
  | _, _ => none
def cMul (i j : Int) : Bool := (decide (-(2 ^ 64) < i) && decide (i < 2 ^ 64)) || (decide (-(2 ^ 64) < j) && decide (j < 2 ^ 64))
def fAddI := fInt2 (fun _ _ => true) fun i j => .int (i + j)
def fSubI := fInt2 (fun _ _ => true) fun i j => .int (i - j)
def fMulI := fInt2 cMul fun i j => .int (i * j)
def fModI := fInt2 (fun _ j => decide (0 < j)) fun i j => .int (i % j)
def fDivI := fInt2 (fun _ j => decide (0 < j) && decide (j < 1073741824)) fun i j => .int (i / j)
def fLtI := fInt2 (fun _ _ => true) fun i j => .bl (decide (i < j))
def fLeI := fInt2 (fun _ _ => true) fun i j => .bl (decide (i ≤ j))
def fGtI := fInt2 (fun _ _ => true) fun i j => .bl (decide (j < i))
def fGeI := fInt2 (fun _ _ => true) fun i j => .bl (decide (j ≤ i))
section
variable {K : PySem.W.Frag} {w : World} {mg : Str → Option Value} {T : List (Addr × Str)}
theorem v2_int {C : Int → Int → Bool} {Cp : Int → Int → Prop} {g : Int → Int → D} {gv : Int → Int → V} (hC : ∀ i j, C i j = true → Cp i j) (hg : ∀ θ H i j, RD K w θ H (g i j) (gv i j)) : V2 K w mg T (fInt2 C g) (rI Cp gv) := by
  intro θ H ih a b x y d ih' Q h1 h2 h3 h4 h5
  unfold fInt2 at h4
  split at h4
  · rename_i i j
    split at h4
    · rename_i hc
      cases h4
      cases h2
      cases h3
      exact ⟨i, j, rfl, rfl, hC i j hc, h5 θ H _ (.refl _ _) h1 (hg _ _ i j)⟩
    · cases h4
  · cases h4
theorem v2_int0 {g : Int → Int → D} {gv : Int → Int → V} (hg : ∀ θ H i j, RD K w θ H (g i j) (gv i j)) : V2 K w mg T (fInt2 (fun _ _ => true) g) (rI0 gv) := by
  intro θ H ih a b x y d ih' Q h1 h2 h3 h4 h5
  obtain ⟨i, j, e1, e2, _, q⟩ := v2_int (Cp := fun _ _ => True) (gv := gv) (fun _ _ _ => trivial) hg θ H ih a b x y d ih' Q h1 h2 h3 h4 h5
  exact ⟨i, j, e1, e2, q⟩
theorem cMul_ok (i j : Int) (h : cMul i j = true) : CMul i j := by
  unfold cMul at h
  rw [Bool.or_eq_true, Bool.and_eq_true, Bool.and_eq_true] at h
  rcases h with ⟨a, b⟩ | ⟨a, b⟩
  · exact .inl ⟨of_decide_eq_true a, of_decide_eq_true b⟩
  · exact .inr ⟨of_decide_eq_true a, of_decide_eq_true b⟩
variable {X : Cx} {a b : Expr} {pos : Pos} {ma mb : Env → M D}
theorem se_subI (ha : SE T X a ma) (hb : SE T X b mb) : SE T X (.BinOp a .Sub b pos) (xBin fSubI ma mb) := se_op (v2_int0 fun _ _ _ _ => .int _) op_sub ha hb
theorem se_mulI (ha : SE T X a ma) (hb : SE T X b mb) : SE T X (.BinOp a .Mult b pos) (xBin fMulI ma mb) := se_op (v2_int cMul_ok fun _ _ _ _ => .int _) op_mul ha hb
theorem se_modI (ha : SE T X a ma) (hb : SE T X b mb) : SE T X (.BinOp a .Mod b pos) (xBin fModI ma mb) := se_op (v2_int (fun _ _ h => of_decide_eq_true h) fun _ _ _ _ => .int _) op_mod ha hb
theorem se_divI (ha : SE T X a ma) (hb : SE T X b mb) : SE T X (.BinOp a .FloorDiv b pos) (xBin fDivI ma mb) :=
  se_op (v2_int (Cp := CDiv) (fun _ _ h => by rw [Bool.and_eq_true] at h; exact ⟨of_decide_eq_true h.1, of_decide_eq_true h.2⟩) fun _ _ _ _ => .int _) op_fdiv ha hb
theorem se_ltI (ha : SE T X a ma) (hb : SE T X b mb) : SE T X (.Compare a [.Lt] [b] pos) (xBin fLtI ma mb) := se_cmp (v2_int0 fun _ _ _ _ => .bl _) op_lt ha hb (nomark _)
theorem se_gtI (ha : SE T X a ma) (hb : SE T X b mb) : SE T X (.Compare a [.Gt] [b] pos) (xBin fGtI ma mb) := se_cmp (v2_int0 fun _ _ _ _ => .bl _) op_gt ha hb (nomark _)
theorem st_ltI (ha : SE T X a ma) (hb : SE T X b mb) : ST T X (.Compare a [.Lt] [b] pos) (tVal (xBin fLtI ma mb)) := st_cmp (v2_int0 fun _ _ _ _ => .bl _) op_lt ha hb (nomark _)
theorem st_leI (ha : SE T X a ma) (hb : SE T X b mb) : ST T X (.Compare a [.LtE] [b] pos) (tVal (xBin fLeI ma mb)) := st_cmp (v2_int0 fun _ _ _ _ => .bl _) op_le ha hb (nomark _)
theorem st_gtI (ha : SE T X a ma) (hb : SE T X b mb) : ST T X (.Compare a [.Gt] [b] pos) (tVal (xBin fGtI ma mb)) := st_cmp (v2_int0 fun _ _ _ _ => .bl _) op_gt ha hb (nomark _)
theorem st_geI (ha : SE T X a ma) (hb : SE T X b mb) : ST T X (.Compare a [.GtE] [b] pos) (tVal (xBin fGeI ma mb)) := st_cmp (v2_int0 fun _ _ _ _ => .bl _) op_ge ha hb (nomark _)
end

/-! ### a + b -/
def fAdd (a b : D) : M D := fun ih => match a, b with
  | .int i, .int j => some (.int (i + j), ih)
  | .tup x, .tup y => if x.length + y.length ≤ sizeLine then some (.tup (x ++ y), ih) else none
  | .lst x, .lst y => if x.length + y.length ≤ sizeLine then some (.lst (x ++ y), ih) else none
  | _, _ => none
/-- list + list, by what is read -/
def rCatR : R2 := fun x y H Q => ∃ l b xs zs, x = .ref l ∧ y = .ref b ∧ Rd H l (.lst xs) ∧ Rd H b (.lst zs) ∧ xs.length + zs.length ≤ sizeLine ∧ ∀ p, H p = none → Q (.ref p) (upd H p (.lst (xs ++ zs)))
theorem op_catR {X : Cx} : OpR X (binaryOp .Add) rCatR := by
  intro pins s σ H x y v u Q I rx ry h
  obtain ⟨l, b, xs, zs, rfl, rfl, hH, hB, hz, q⟩ := h
  cases rx
  cases ry
  obtain ⟨z, its, n, r, e⟩ := hH.ok I.hok
  obtain ⟨z2, its2, n2, r2, e2⟩ := hB.ok I.hok
  have l1 := r.length
  have l2 := r2.length
  refine PySem.P.add_list e e2 ?_ (by rw [List.size_toArray, List.size_toArray]; omega)
  have ea : its.toArray ++ its2.toArray = (its ++ its2).toArray := by simp
  rw [ea]
  exact ⟨.ref _, _, I.lnew (t' := s.toks) (r.append r2) (by rw [List.length_append]; omega), rfl, q _ I.fresh⟩
section
variable {K : PySem.W.Frag} {w : World} {mg : Str → Option Value} {T : List (Addr × Str)} {X : Cx} {a b : Expr} {pos : Pos} {ma mb : Env → M D}
theorem v2_add : V2 K w mg T fAdd (fun x y H Q => rI0 (fun i j => .int (i + j)) x y H Q ∨ rCatA K x y H Q ∨ rCatR x y H Q) := by
  intro θ H ih a b x y d ih' Q h1 h2 h3 h4 h5
  unfold fAdd at h4
  split at h4
  · rename_i i j
    cases h4
    cases h2
    cases h3
    exact .inl ⟨i, j, rfl, rfl, h5 θ H _ (.refl _ _) h1 (.int _)⟩
  · rename_i xs ys
    split at h4
    · rename_i hz
      cases h4
      cases h2 with
      | @tup _ p vs hp rp =>
        cases h3 with
        | @tup _ q us hq rq =>
          refine .inr (.inl ⟨p, q, vs, us, rfl, rfl, hp, hq, by rw [rp.length, rq.length]; exact hz, fun e => ?_, fun e e2 => ?_, fun e e2 t ht => ?_⟩)
          · subst e
            cases rp
            exact h5 θ H _ (.refl _ _) h1 (.tup hq rq)
          · subst e2
            cases rq
            rw [List.append_nil] at h5
            exact h5 θ H _ (.refl _ _) h1 (.tup hp rp)
          · exact h5 θ _ _ (Ev.new ht) (h1.new ht) (.tup (.of upd_same) ((rp.append rq).mono (Ev.new ht)))
    · cases h4
  · rename_i xs ys
    split at h4
    · rename_i hz
      cases h4
      cases h2 with
      | @lst _ p vs fp hp rp =>
        cases h3 with
        | @lst _ q us fq hq rq => exact .inr (.inr ⟨p, q, vs, us, rfl, rfl, hp, hq, by rw [rp.length, rq.length]; exact hz, fun t ht => h5 θ _ _ (Ev.new ht) (h1.new ht) (.lst (h1.free_new ht) (.of upd_same) ((rp.append rq).mono (Ev.new ht)))⟩)
    · cases h4
  · cases h4
theorem se_add (ha : SE T X a ma) (hb : SE T X b mb) : SE T X (.BinOp a .Add b pos) (xBin fAdd ma mb) := se_op v2_add (op_add.or (op_catA.or op_catR)) ha hb
end

/-! ### == of data -/
mutual
def pyOf : D → Option PyData
  | .non => some .none
  | .bl b => some (.bool b)
  | .int i => some (.int i)
  | .str x => some (.str x)
  | .tup ds => (pysOf ds).map .tuple
  | .lst ds => (pysOf ds).map .list
  | .tupx _ => none
  | .dct _ _ => none
  | .obj _ => none
def pysOf : List D → Option (List PyData)
  | [] => some []
  | d :: ds => (pyOf d).bind fun k => (pysOf ds).map fun ks => k :: ks
end
/-- data that == looks at -/
def eqd (d : D) : Option PyData := (pyOf d).bind fun p => if SeqAt.shaped p = true then some p else none
def fEq (a b : D) : M D := fun ih => (eqd a).bind fun p => (eqd b).map fun q => (.bl (PyData.eqv p q), ih)
def fNe (a b : D) : M D := fun ih => (eqd a).bind fun p => (eqd b).map fun q => (.bl (!PyData.eqv p q), ih)
section
variable {K : PySem.W.Frag} {w : World} {mg : Str → Option Value} {T : List (Addr × Str)} {θ : Th} {H : Hp}
theorem Rd.sqL {H : Hp} {a : Addr} {vs : List V} (h : Rd H a (.lst vs)) : SqL K H a vs := .inl h
mutual
theorem RD.dp : ∀ {d : D} {v : V} {p : PyData}, RD K w θ H d v → pyOf d = some p → Dp K H v p
  | _, _, _, .non, h => by cases h; exact .non
  | _, _, _, .bl b, h => by cases h; exact .bl b
  | _, _, _, .int i, h => by cases h; exact .int i
  | _, _, _, .str x, h => by cases h; exact .str x
  | _, _, _, .tup (ds := ds) q r, h => by
    unfold pyOf at h
    cases e : pysOf ds with
    | none => rw [e] at h; cases h
    | some ks =>
      rw [e] at h
      cases h
      exact .tup q (RDs.dps r e)
  | _, _, _, .lst (ds := ds) _ q r, h => by
    unfold pyOf at h
    cases e : pysOf ds with
    | none => rw [e] at h; cases h
    | some ks =>
      rw [e] at h
      cases h
      exact .lst (Rd.sqL q) (RDs.dps r e)
  | _, _, _, .tupx _ _ _, h => by cases h
  | _, _, _, .dct _ _ _ _ _ _, h => by cases h
  | _, _, _, .obj _, h => by cases h
theorem RDs.dps : ∀ {ds : List D} {vs : List V} {ps : List PyData}, RDs K w θ H ds vs → pysOf ds = some ps → DpAll K H vs ps
  | _, _, _, .nil, h => by cases h; exact .nil
  | _, _, _, .cons (d := d) (ds := ds) q r, h => by
    unfold pysOf at h
    cases e : pyOf d with
    | none => rw [e] at h; cases h
    | some k =>
      rw [e] at h
      simp only [Option.bind_some] at h
      cases e2 : pysOf ds with
      | none => rw [e2] at h; cases h
      | some ks' =>
        rw [e2] at h
        cases h
        exact .cons (RD.dp q e) (RDs.dps r e2)
end
theorem eqd_some {d : D} {p : PyData} (h : eqd d = some p) : pyOf d = some p ∧ SeqAt.shaped p = true := by
  unfold eqd at h
  cases e : pyOf d with
  | none => rw [e] at h; cases h
  | some k' =>
    rw [e] at h
    simp only [Option.bind_some] at h
    split at h
    · cases h
      exact ⟨rfl, by assumption⟩
    · cases h
theorem v2_eq : V2 K w mg T fEq (rEqD K) := by
  intro θ H ih a b x y d ih' Q h1 h2 h3 h4 h5
  unfold fEq at h4
  cases e : eqd a with
  | none => rw [e] at h4; cases h4
  | some p =>
    rw [e] at h4
    simp only [Option.bind_some] at h4
    cases e2 : eqd b with
    | none => rw [e2] at h4; cases h4
    | some q =>
      rw [e2] at h4
      cases h4
      exact ⟨p, q, h2.dp (eqd_some e).1, h3.dp (eqd_some e2).1, (eqd_some e).2, (eqd_some e2).2, h5 θ H _ (.refl _ _) h1 (.bl _)⟩
theorem v2_ne : V2 K w mg T fNe (rNeD K) := by
  intro θ H ih a b x y d ih' Q h1 h2 h3 h4 h5
  unfold fNe at h4
  cases e : eqd a with
  | none => rw [e] at h4; cases h4
  | some p =>
    rw [e] at h4
    simp only [Option.bind_some] at h4
    cases e2 : eqd b with
    | none => rw [e2] at h4; cases h4
    | some q =>
      rw [e2] at h4
      cases h4
      exact ⟨p, q, h2.dp (eqd_some e).1, h3.dp (eqd_some e2).1, (eqd_some e).2, (eqd_some e2).2, h5 θ H _ (.refl _ _) h1 (.bl _)⟩
variable {X : Cx} {a b : Expr} {pos : Pos} {ma mb : Env → M D}
theorem se_eq (hu : X.A.units + 64 < cLine) (ha : SE T X a ma) (hb : SE T X b mb) : SE T X (.Compare a [.Eq] [b] pos) (xBin fEq ma mb) := se_cmp v2_eq (op_eqD hu) ha hb (nomark _)
theorem st_eq (hu : X.A.units + 64 < cLine) (ha : SE T X a ma) (hb : SE T X b mb) : ST T X (.Compare a [.Eq] [b] pos) (tVal (xBin fEq ma mb)) := st_cmp v2_eq (op_eqD hu) ha hb (nomark _)
theorem st_ne (hu : X.A.units + 64 < cLine) (ha : SE T X a ma) (hb : SE T X b mb) : ST T X (.Compare a [.NotEq] [b] pos) (tVal (xBin fNe ma mb)) := st_cmp v2_ne (op_neD hu) ha hb (nomark _)
theorem se_ne (hu : X.A.units + 64 < cLine) (ha : SE T X a ma) (hb : SE T X b mb) : SE T X (.Compare a [.NotEq] [b] pos) (xBin fNe ma mb) := se_cmp v2_ne (op_neD hu) ha hb (nomark _)
end

/-! ### is None, is not None, is not True -/
def isNon : D → Bool
  | .non => true
  | _ => false
def fIsN (a b : D) : M D := fun ih => match b with
  | .non => some (.bl (isNon a), ih)
  | _ => none
def fNotN (a b : D) : M D := fun ih => match b with
  | .non => some (.bl (!isNon a), ih)
  | _ => none
def fNotB (a b : D) : M D := fun ih => match a, b with
  | .bl x, .bl y => some (.bl (!decide (x = y)), ih)
  | _, _ => none
section
variable {K : PySem.W.Frag} {w : World} {mg : Str → Option Value} {T : List (Addr × Str)} {θ : Th} {H : Hp}
theorem isNon_ok {d : D} {v : V} (h : RD K w θ H d v) : decide (v = .non) = isNon d := by
  cases h <;> simp [isNon]
theorem v2_isN : V2 K w mg T fIsN (fun x y H Q => y = .non ∧ Q (.bl (decide (x = .non))) H) := by
  intro θ H ih a b x y d ih' Q h1 h2 h3 h4 h5
  unfold fIsN at h4
  split at h4
  · cases h4
    cases h3
    refine ⟨rfl, ?_⟩
    rw [isNon_ok h2]
    exact h5 θ H _ (.refl _ _) h1 (.bl _)
  · cases h4
theorem v2_notN : V2 K w mg T fNotN (fun x y H Q => y = .non ∧ Q (.bl (!decide (x = .non))) H) := by
  intro θ H ih a b x y d ih' Q h1 h2 h3 h4 h5
  unfold fNotN at h4
  split at h4
  · cases h4
    cases h3
    refine ⟨rfl, ?_⟩
    rw [isNon_ok h2]
    exact h5 θ H _ (.refl _ _) h1 (.bl _)
  · cases h4
theorem v2_notB : V2 K w mg T fNotB (fun x y H Q => ∃ a b, x = .bl a ∧ y = .bl b ∧ Q (.bl (!decide (a = b))) H) := by
  intro θ H ih a b x y d ih' Q h1 h2 h3 h4 h5
  unfold fNotB at h4
  split at h4
  · cases h4
    cases h2
    cases h3
    exact ⟨_, _, rfl, rfl, h5 θ H _ (.refl _ _) h1 (.bl _)⟩
  · cases h4
variable {X : Cx} {a b : Expr} {pos : Pos} {ma mb : Env → M D}
theorem se_non {j : Nat} : SE T X (.Constant .none j pos) (xC .non) := se_c pe_non fun _ _ => .non
theorem se_bl {b : Bool} {j : Nat} : SE T X (.Constant (.bool b) j pos) (xC (.bl b)) := se_c pe_bl fun _ _ => .bl b
theorem se_str {x : Str} {j : Nat} : SE T X (.Constant (.str x) j pos) (xC (.str x)) := se_c pe_str fun _ _ => .str x
theorem st_isN (ha : SE T X a ma) (hb : SE T X b mb) : ST T X (.Compare a [.Is] [b] pos) (tVal (xBin fIsN ma mb)) := st_cmp v2_isN op_isN ha hb (nomark _)
theorem st_notN (ha : SE T X a ma) (hb : SE T X b mb) : ST T X (.Compare a [.IsNot] [b] pos) (tVal (xBin fNotN ma mb)) := st_cmp v2_notN op_notN ha hb (nomark _)
theorem se_isN (ha : SE T X a ma) (hb : SE T X b mb) : SE T X (.Compare a [.Is] [b] pos) (xBin fIsN ma mb) := se_cmp v2_isN op_isN ha hb (nomark _)
theorem se_notN (ha : SE T X a ma) (hb : SE T X b mb) : SE T X (.Compare a [.IsNot] [b] pos) (xBin fNotN ma mb) := se_cmp v2_notN op_notN ha hb (nomark _)
end
end Gh
namespace Gh
open PySem PySem.Spec PyProof.Rows L2
section
variable {X : Cx} {a b : Expr} {pos : Pos} {ma mb : Env → M D}
theorem st_notB (ha : SE T X a ma) (hb : SE T X b mb) : ST T X (.Compare a [.IsNot] [b] pos) (tVal (xBin fNotB ma mb)) := st_cmp v2_notB op_isnot_bl ha hb (nomark _)
end
end Gh
end
section
set_option Elab.async false
set_option linter.all false
set_option maxRecDepth 100000
/-! Statements. -/
namespace Gh
open PySem PySem.Spec PyProof.Rows L2

inductive Fl where
  | nx | rt (d : D) | bk | ct
abbrev MS := Env → IH → Option (Fl × Env × IH)
abbrev MG := D → Env → IH → Option (Env × IH)
abbrev MGs := List D → Env → IH → Option (Env × IH)

section
variable (K : PySem.W.Frag) (w : World) (mg : Str → Option Value) (T : List (Addr × Str))
def PostS (D : Ends) (θ : Th) (H : Hp) (σ : L2.St) : Fl → Prop
  | .nx => D.nx σ H
  | .bk => D.bk σ H
  | .ct => D.ct σ H
  | .rt d => ∀ v, RD K w θ H d v → D.rt v H
def simS (m : MS) : TS := fun D σ H =>
  ∃ θ ρ ih f ρ' ih', RH K w mg T θ H ih ∧ RE K w θ H ρ σ ∧ m ρ ih = some (f, ρ', ih') ∧ ∀ θ' H' σ', Ev θ H θ' H' → RH K w mg T θ' H' ih' → RE K w θ' H' ρ' σ' → PostS K w D θ' H' σ' f
def simG (g : MG) : TG := fun v σ H Q =>
  ∃ θ ρ ih d ρ' ih', RH K w mg T θ H ih ∧ RE K w θ H ρ σ ∧ RD K w θ H d v ∧ g d ρ ih = some (ρ', ih') ∧ ∀ θ' H' σ', Ev θ H θ' H' → RH K w mg T θ' H' ih' → RE K w θ' H' ρ' σ' → Q σ' H'
def simGs (g : MGs) : TGs := fun vs σ H Q =>
  ∃ θ ρ ih ds ρ' ih', RH K w mg T θ H ih ∧ RE K w θ H ρ σ ∧ RDs K w θ H ds vs ∧ g ds ρ ih = some (ρ', ih') ∧ ∀ θ' H' σ', Ev θ H θ' H' → RH K w mg T θ' H' ih' → RE K w θ' H' ρ' σ' → Q σ' H'
end
abbrev SS (T : List (Addr × Str)) (X : Cx) (st : Stmt) (m : MS) : Prop := PS X st (simS X.K X.w X.mg T m)
abbrev SB (T : List (Addr × Str)) (X : Cx) (sts : List Stmt) (m : MS) : Prop := PSs X sts (simS X.K X.w X.mg T m)
abbrev SG (T : List (Addr × Str)) (X : Cx) (e : Expr) (g : MG) : Prop := PG X e (simG X.K X.w X.mg T g)
abbrev SGs (T : List (Addr × Str)) (X : Cx) (es : List Expr) (g : MGs) : Prop := PGs X es (simGs X.K X.w X.mg T g)
theorem _root_.L2.PG.le {X : Cx} {e : Expr} {t u : TG} (h : PG X e t) (l : ∀ v σ H Q, u v σ H Q → t v σ H Q) : PG X e u := ⟨fun pins s σ H v x Q I r q => h.run pins s σ H v x Q I r (l v σ H Q q)⟩
theorem _root_.L2.PGs.le {X : Cx} {e : List Expr} {t u : TGs} (h : PGs X e t) (l : ∀ v σ H Q, u v σ H Q → t v σ H Q) : PGs X e u := ⟨fun pins s σ H v x Q I r q => h.run pins s σ H v x Q I r (l v σ H Q q)⟩

/-! ### the runs -/
def yNext : MS := fun ρ ih => some (.nx, ρ, ih)
def ySeq (a b : MS) : MS := fun ρ ih => (a ρ ih).bind fun r => match r with
  | (.nx, ρ1, ih1) => b ρ1 ih1
  | r => some r
def yExpr (m : Env → M D) : MS := fun ρ ih => (m ρ ih).bind fun p => some (.nx, ρ, p.2)
def yRet (m : Env → M D) : MS := fun ρ ih => (m ρ ih).bind fun p => some (.rt p.1, ρ, p.2)
def yRetN : MS := fun ρ ih => some (.rt .non, ρ, ih)
def yBrk : MS := fun ρ ih => some (.bk, ρ, ih)
def yCont : MS := fun ρ ih => some (.ct, ρ, ih)
def yIf (c : Env → M Bool) (a b : MS) : MS := fun ρ ih => (c ρ ih).bind fun p => if p.1 = true then a ρ p.2 else b ρ p.2
def ySet (i : Nat) (m : Env → M D) : MS := fun ρ ih => (m ρ ih).bind fun p => some (.nx, ρ.set i (some p.1), p.2)
def yAsg (m : Env → M D) (g : MG) : MS := fun ρ ih => (m ρ ih).bind fun p => (g p.1 ρ p.2).bind fun q => some (.nx, q.1, q.2)
def gNm (i : Nat) : MG := fun d ρ ih => some (ρ.set i (some d), ih)
def gsNil : MGs := fun ds ρ ih => match ds with
  | [] => some (ρ, ih)
  | _ => none
def gsCons (g : MG) (gs : MGs) : MGs := fun ds ρ ih => match ds with
  | d :: ds => (g d ρ ih).bind fun p => gs ds p.1 p.2
  | _ => none
def gTp (n : Nat) (gs : MGs) : MG := fun d ρ ih => match d with
  | .tup ds => if ds.length = n then gs ds ρ ih else none
  | _ => none
def gSb (mo mi : Env → M D) (ws : D → D → D → IH → Option IH) : MG := fun d ρ ih => (mo ρ ih).bind fun p => (mi ρ p.2).bind fun q => (ws p.1 q.1 d q.2).bind fun ih' => some (ρ, ih')
/-- while, with fuel -/
def whileN (c : Env → M Bool) (b : MS) : Nat → Env → IH → Option (Fl × Env × IH)
  | 0, _, _ => none
  | n + 1, ρ, ih => (c ρ ih).bind fun p => if p.1 = true then (b ρ p.2).bind fun r => match r with
    | (.nx, ρ1, ih1) => whileN c b n ρ1 ih1
    | (.ct, ρ1, ih1) => whileN c b n ρ1 ih1
    | (.bk, ρ1, ih1) => some (.nx, ρ1, ih1)
    | (.rt d, ρ1, ih1) => some (.rt d, ρ1, ih1)
    else some (.nx, ρ, p.2)
theorem whileN_succ {c : Env → M Bool} {b : MS} : ∀ {n : Nat} {ρ : Env} {ih : IH} {r : Fl × Env × IH}, whileN c b n ρ ih = some r → whileN c b (n + 1) ρ ih = some r
  | 0, _, _, _, h => by cases h
  | n + 1, ρ, ih, r, h => by
    rw [whileN] at h ⊢
    cases e : c ρ ih with
    | none => rw [e] at h; cases h
    | some p =>
      rw [e] at h
      simp only [Option.bind_some] at h ⊢
      split at h
      · rename_i hb
        rw [if_pos hb]
        cases e2 : b ρ p.2 with
        | none => rw [e2] at h; cases h
        | some q =>
          rw [e2] at h
          simp only [Option.bind_some] at h ⊢
          obtain ⟨f, ρ1, ih1⟩ := q
          cases f with
          | nx => exact whileN_succ h
          | ct => exact whileN_succ h
          | bk => exact h
          | rt d => exact h
      · rename_i hb
        rw [if_neg hb]
        exact h
theorem whileN_le {c : Env → M Bool} {b : MS} {n m : Nat} (l : n ≤ m) {ρ : Env} {ih : IH} {r : Fl × Env × IH} (h : whileN c b n ρ ih = some r) : whileN c b m ρ ih = some r := by
  induction l with
  | refl => exact h
  | step _ q => exact whileN_succ q
open Classical in
noncomputable def yWhile (c : Env → M Bool) (b : MS) : MS := fun ρ ih => if h : ∃ n, (whileN c b n ρ ih).isSome = true then whileN c b h.choose ρ ih else none
theorem yWhile_of {c : Env → M Bool} {b : MS} {n : Nat} {ρ : Env} {ih : IH} {r : Fl × Env × IH} (h : whileN c b n ρ ih = some r) : yWhile c b ρ ih = some r := by
  have hx : ∃ n, (whileN c b n ρ ih).isSome = true := ⟨n, by rw [h]; rfl⟩
  unfold yWhile
  rw [dif_pos hx]
  have hs := hx.choose_spec
  cases e : whileN c b hx.choose ρ ih with
  | none => rw [e] at hs; cases hs
  | some q =>
    rcases Nat.le_total n hx.choose with l | l
    · rw [whileN_le l h] at e
      exact e.symm
    · have := whileN_le l e
      rw [h] at this
      exact this.symm
theorem of_yWhile {c : Env → M Bool} {b : MS} {ρ : Env} {ih : IH} {r : Fl × Env × IH} (h : yWhile c b ρ ih = some r) : ∃ n, whileN c b n ρ ih = some r := by
  unfold yWhile at h
  split at h
  · exact ⟨_, h⟩
  · cases h
/-- what a loop walks: its items, and what must stay as it is -/
structure Src where
  items : List D
  gd : IH → Bool
def forL (gd : IH → Bool) (g : MG) (b : MS) : List D → Env → IH → Option (Fl × Env × IH)
  | [], ρ, ih => if gd ih = true then some (.nx, ρ, ih) else none
  | d :: ds, ρ, ih => if gd ih = true then (g d ρ ih).bind fun q => (b q.1 q.2).bind fun r => match r with
    | (.nx, ρ1, ih1) => forL gd g b ds ρ1 ih1
    | (.ct, ρ1, ih1) => forL gd g b ds ρ1 ih1
    | (.bk, ρ1, ih1) => some (.nx, ρ1, ih1)
    | (.rt d, ρ1, ih1) => some (.rt d, ρ1, ih1)
    else none
def yFor (mi : Env → M Src) (g : MG) (b : MS) : MS := fun ρ ih => (mi ρ ih).bind fun p => forL p.1.gd g b p.1.items ρ p.2

/-! ### the rules -/
section
variable {T : List (Addr × Str)} {X : Cx} {st : Stmt} {sts : List Stmt} {e : Expr} {es : List Expr} {pos : Pos} {m : Env → M D} {a b : MS} {c : Env → M Bool}
theorem sb_nil : SB T X [] yNext := PSs.le pss_nil fun D σ H q => by
  obtain ⟨θ, ρ, ih, f, ρ', ih', h1, h2, h3, h4⟩ := q
  cases h3
  exact h4 θ H σ (.refl _ _) h1 h2
theorem sb_cons (h1 : SS T X st a) (h2 : SB T X sts b) : SB T X (st :: sts) (ySeq a b) := PSs.le (pss_cons h1 h2) fun D σ H q => by
  obtain ⟨θ, ρ, ih, f, ρ', ih', h1, h2, h3, h4⟩ := q
  unfold ySeq at h3
  cases e1 : a ρ ih with
  | none => rw [e1] at h3; cases h3
  | some r =>
    rw [e1] at h3
    simp only [Option.bind_some] at h3
    obtain ⟨f1, ρ1, ih1⟩ := r
    refine ⟨θ, ρ, ih, f1, ρ1, ih1, h1, h2, e1, fun θ1 H1 σ1 ev q1 r1 => ?_⟩
    cases f1 with
    | nx => exact ⟨θ1, ρ1, ih1, f, ρ', ih', q1, r1, h3, fun θ2 H2 σ2 ev2 => h4 θ2 H2 σ2 (ev.trans ev2)⟩
    | bk => cases h3; exact h4 θ1 H1 σ1 ev q1 r1
    | ct => cases h3; exact h4 θ1 H1 σ1 ev q1 r1
    | rt d => cases h3; exact h4 θ1 H1 σ1 ev q1 r1
theorem sb_one (h1 : SS T X st a) : SB T X [st] a := PSs.le (pss_one h1) fun D σ H q => q
theorem ss_pass : SS T X (.Pass pos) yNext := PS.le ps_pass fun D σ H q => by
  obtain ⟨θ, ρ, ih, f, ρ', ih', h1, h2, h3, h4⟩ := q
  cases h3
  exact h4 θ H σ (.refl _ _) h1 h2
theorem ss_brk : SS T X (.Break pos) yBrk := PS.le ps_break fun D σ H q => by
  obtain ⟨θ, ρ, ih, f, ρ', ih', h1, h2, h3, h4⟩ := q
  cases h3
  exact h4 θ H σ (.refl _ _) h1 h2
theorem ss_cont : SS T X (.Continue pos) yCont := PS.le ps_continue fun D σ H q => by
  obtain ⟨θ, ρ, ih, f, ρ', ih', h1, h2, h3, h4⟩ := q
  cases h3
  exact h4 θ H σ (.refl _ _) h1 h2
theorem ss_expr (he : SE T X e m) (hs : swapsWith e none pos.line X.env = pure false := by rfl) : SS T X (.Expr e pos) (yExpr m) := PS.le (ps_expr he hs) fun D σ H q => by
  obtain ⟨θ, ρ, ih, f, ρ', ih', h1, h2, h3, h4⟩ := q
  unfold yExpr at h3
  cases e1 : m ρ ih with
  | none => rw [e1] at h3; cases h3
  | some p =>
    rw [e1] at h3
    cases h3
    exact ⟨θ, ρ, ih, _, _, h1, h2, e1, fun θ1 H1 v ev q1 r1 => h4 θ1 H1 σ ev q1 (h2.mono ev)⟩
theorem ss_ret (he : SE T X e m) : SS T X (.Return (some e) pos) (yRet m) := PS.le (ps_ret he) fun D σ H q => by
  obtain ⟨θ, ρ, ih, f, ρ', ih', h1, h2, h3, h4⟩ := q
  unfold yRet at h3
  cases e1 : m ρ ih with
  | none => rw [e1] at h3; cases h3
  | some p =>
    rw [e1] at h3
    cases h3
    exact ⟨θ, ρ, ih, _, _, h1, h2, e1, fun θ1 H1 v ev q1 r1 => h4 θ1 H1 σ ev q1 (h2.mono ev) v r1⟩
theorem ss_retN : SS T X (.Return none pos) yRetN := PS.le ps_retN fun D σ H q => by
  obtain ⟨θ, ρ, ih, f, ρ', ih', h1, h2, h3, h4⟩ := q
  cases h3
  exact h4 θ H σ (.refl _ _) h1 h2 _ .non
theorem ss_if {tc : Expr} {sa sb : List Stmt} (hc : ST T X tc c) (ha : SB T X sa a) (hb : SB T X sb b) : SS T X (.If tc sa sb pos) (yIf c a b) := PS.le (ps_if hc ha hb) fun D σ H q => by
  obtain ⟨θ, ρ, ih, f, ρ', ih', h1, h2, h3, h4⟩ := q
  unfold yIf at h3
  cases e1 : c ρ ih with
  | none => rw [e1] at h3; cases h3
  | some p =>
    rw [e1] at h3
    simp only [Option.bind_some] at h3
    obtain ⟨k, ih1⟩ := p
    refine ⟨θ, ρ, ih, _, _, h1, h2, e1, fun θ1 H1 v ev q1 r1 => ?_⟩
    subst r1
    cases k with
    | true => exact ⟨θ1, ρ, ih1, f, ρ', ih', q1, h2.mono ev, h3, fun θ2 H2 σ2 ev2 => h4 θ2 H2 σ2 (ev.trans ev2)⟩
    | false => exact ⟨θ1, ρ, ih1, f, ρ', ih', q1, h2.mono ev, h3, fun θ2 H2 σ2 ev2 => h4 θ2 H2 σ2 (ev.trans ev2)⟩
theorem ss_set {i : Nat} {x : Str} {pos' : Pos} (hN : X.N.Nodup) (hi : X.N[i]? = some x) (hx : Loc X.env.scope x) (he : SE T X e m) (hs : swapsWith e (some (.Name x pos')) pos.line X.env = pure false := by rfl) (hf : X.fn x = true ∨ X.env.scope.names.lookup x = some .local := by first | exact .inl rfl | exact .inr rfl | assumption) :
    SS T X (.Assign [.Name x pos'] e pos) (ySet i m) := PS.le (ps_set hN hi hx he hs hf) fun D σ H q => by
  obtain ⟨θ, ρ, ih, f, ρ', ih', h1, h2, h3, h4⟩ := q
  unfold ySet at h3
  cases e1 : m ρ ih with
  | none => rw [e1] at h3; cases h3
  | some p =>
    rw [e1] at h3
    cases h3
    exact ⟨θ, ρ, ih, _, _, h1, h2, e1, fun θ1 H1 v ev q1 r1 => h4 θ1 H1 _ ev q1 ((h2.mono ev).set r1 i)⟩
/-- x op= e -/
theorem ss_aug {i : Nat} {x : Str} {pos' : Pos} {op : Operator} {ti : TIp} {f : D → D → M D} (hN : X.N.Nodup) (hi : X.N[i]? = some x) (hx : Loc X.env.scope x) (he : SE T X e m) (ho : PIp X op ti) (hv : V2 X.K X.w X.mg T f ti) (hf : X.fn x = true ∨ X.env.scope.names.lookup x = some .local := by first | exact .inl rfl | exact .inr rfl | assumption) :
    SS T X (.AugAssign (.Name x pos') op e pos) (ySet i (xBin f (xVar i) m)) := PS.le (ps_aug hN hi hx he ho hf) fun D σ H q => by
  obtain ⟨θ, ρ, ih, g, ρ', ih', h1, h2, h3, h4⟩ := q
  unfold ySet xBin at h3
  cases e1 : xVar i ρ ih with
  | none => rw [e1] at h3; cases h3
  | some p =>
    rw [e1] at h3
    simp only [Option.bind_some] at h3
    unfold xVar at e1
    split at e1
    · rename_i d hd
      cases e1
      obtain ⟨v, hv1, r⟩ := h2.get hd
      cases e2 : m ρ ih with
      | none => rw [e2] at h3; cases h3
      | some q =>
        rw [e2] at h3
        simp only [Option.bind_some] at h3
        cases e3 : f d q.1 q.2 with
        | none => rw [e3] at h3; cases h3
        | some r3 =>
          rw [e3] at h3
          cases h3
          refine ⟨v, hv1, θ, ρ, ih, _, _, h1, h2, e2, fun θ1 H1 y ev q1 r1 => ?_⟩
          exact hv θ1 H1 _ d q.1 v y _ _ _ q1 (r.mono ev) r1 e3 fun θ2 H2 z ev2 q2 r2 => h4 θ2 H2 _ (ev.trans ev2) q2 ((h2.mono (ev.trans ev2)).set r2 i)
    · cases e1
theorem v2_ipAdd : V2 X.K X.w X.mg T fAddI (ipI fun i j => i + j) := v2_int0 fun _ _ _ _ => .int _

/-! targets -/
theorem sg_name {i : Nat} {x : Str} (hN : X.N.Nodup) (hi : X.N[i]? = some x) (hx : Loc X.env.scope x) (hf : X.fn x = true ∨ X.env.scope.names.lookup x = some .local := by first | exact .inl rfl | exact .inr rfl | assumption) : SG T X (.Name x pos) (gNm i) := PG.le (pg_name hN hi hx hf) fun v σ H Q q => by
  obtain ⟨θ, ρ, ih, d, ρ', ih', h1, h2, h3, h4, h5⟩ := q
  cases h4
  exact h5 θ H _ (.refl _ _) h1 (h2.set h3 i)
theorem sgs_nil : SGs T X [] gsNil := PGs.le pgs_nil fun v σ H Q q => by
  obtain ⟨θ, ρ, ih, d, ρ', ih', h1, h2, h3, h4, h5⟩ := q
  unfold gsNil at h4
  split at h4
  · cases h4
    cases h3
    exact ⟨rfl, h5 θ H _ (.refl _ _) h1 h2⟩
  · cases h4
theorem sgs_cons {g : MG} {gs : MGs} (h1 : SG T X e g) (h2 : SGs T X es gs) (hs : (assignEach (e :: es) X.env).map (·.2) = assign e X.env :: (assignEach es X.env).map (·.2) := by rfl) : SGs T X (e :: es) (gsCons g gs) := PGs.le (pgs_cons h1 h2 hs) fun v σ H Q q => by
  obtain ⟨θ, ρ, ih, d, ρ', ih', h1, h2, h3, h4, h5⟩ := q
  unfold gsCons at h4
  split at h4
  · rename_i d ds
    cases h3 with
    | cons r rr =>
      cases e1 : g d ρ ih with
      | none => rw [e1] at h4; cases h4
      | some p =>
        rw [e1] at h4
        simp only [Option.bind_some] at h4
        refine ⟨_, _, rfl, θ, ρ, ih, d, p.1, p.2, h1, h2, r, e1, fun θ1 H1 σ1 ev q1 r1 => ?_⟩
        exact ⟨θ1, p.1, p.2, ds, ρ', ih', q1, r1, rr.mono ev, h4, fun θ2 H2 σ2 ev2 => h5 θ2 H2 σ2 (ev.trans ev2)⟩
  · cases h4
theorem sg_tup {gs : MGs} {k n : Nat} (hc : X.calm = true) (h : SGs T X es gs) (hn : (assignEach es X.env).length = n := by rfl) (hst : (assignEach es X.env).findIdx? (·.1) = none := by rfl) : SG T X (.Tuple es k pos) (gTp n gs) := PG.le (pg_tup hc h hn hst) fun v σ H Q q => by
  obtain ⟨θ, ρ, ih, d, ρ', ih', h1, h2, h3, h4, h5⟩ := q
  unfold gTp at h4
  split at h4
  · rename_i ds
    split at h4
    · rename_i hl
      cases h3 with
      | tup r rr => exact ⟨_, _, rfl, r, by rw [rr.length]; exact hl, θ, ρ, ih, ds, ρ', ih', h1, h2, rr, h4, h5⟩
    · cases h4
  · cases h4
/-- what a store by data does -/
def W3 (K : PySem.W.Frag) (w : World) (mg : Str → Option Value) (T : List (Addr × Str)) (ws : D → D → D → IH → Option IH) (r : TSet) : Prop :=
  ∀ (θ : Th) (H : Hp) (ih ih' : IH) (o i d : D) (x y v : V) (Q : Hp → Prop), RH K w mg T θ H ih → RD K w θ H o x → RD K w θ H i y → RD K w θ H d v → ws o i d ih = some ih' → (∀ θ' H', Ev θ H θ' H' → RH K w mg T θ' H' ih' → Q H') → r x y v H Q
theorem w3_dict : W3 X.K X.w X.mg T wSetD (rSetD X.K X.w) := fun θ H ih ih' o i d x y v Q h1 h2 h3 h4 h5 h6 => setD_ok h1 h2 h3 h4 h5 fun H' ev q => h6 θ H' ev q
theorem sg_sub {o i : Expr} {mo mi : Env → M D} {ws : D → D → D → IH → Option IH} {t : TSet} (ho : SE T X o mo) (hi : SE T X i mi) (hs : PSet X t) (hw : W3 X.K X.w X.mg T ws t)
    (ha : ∀ v, assign (.Subscript o i pos) X.env v = (do
      let ov ← holding [v] (eval o X.env)
      let iv ← holding [v, ov] (eval i X.env)
      standAt pos
      holding [v, ov, iv] (setItem ov iv v)
      release [v, ov, iv] []) := by intro _; rfl) : SG T X (.Subscript o i pos) (gSb mo mi ws) := PG.le (pg_sub ho hi hs ha) fun v σ H Q q => by
  obtain ⟨θ, ρ, ih, d, ρ', ih', h1, h2, h3, h4, h5⟩ := q
  unfold gSb at h4
  cases e1 : mo ρ ih with
  | none => rw [e1] at h4; cases h4
  | some p =>
    rw [e1] at h4
    simp only [Option.bind_some] at h4
    refine ⟨θ, ρ, ih, _, _, h1, h2, e1, fun θ1 H1 x ev q1 r1 => ?_⟩
    cases e2 : mi ρ p.2 with
    | none => rw [e2] at h4; cases h4
    | some p2 =>
      rw [e2] at h4
      simp only [Option.bind_some] at h4
      refine ⟨θ1, ρ, p.2, _, _, q1, h2.mono ev, e2, fun θ2 H2 y ev2 q2 r2 => ?_⟩
      cases e3 : ws p.1 p2.1 d p2.2 with
      | none => rw [e3] at h4; cases h4
      | some ih3 =>
        rw [e3] at h4
        cases h4
        exact hw θ2 H2 _ _ _ _ _ _ _ _ _ q2 (r1.mono ev2) r2 (h3.mono (ev.trans ev2)) e3 fun θ3 H3 ev3 q3 => h5 θ3 H3 σ (ev.trans (ev2.trans ev3)) q3 (h2.mono (ev.trans (ev2.trans ev3)))
theorem ss_asg {tg : Expr} {g : MG} (he : SE T X e m) (hg : SG T X tg g) (hs : swapsWithSole [tg] e pos.line X.env = pure false := by rfl) (hw : swappedStores [tg] e X.env = pure none := by rfl)
    (h1 : (assignEach [tg] X.env).map (·.2) = [assign tg X.env] := by rfl) : SS T X (.Assign [tg] e pos) (yAsg m g) := PS.le (ps_asg he hg hs hw h1) fun D σ H q => by
  obtain ⟨θ, ρ, ih, f, ρ', ih', h1, h2, h3, h4⟩ := q
  unfold yAsg at h3
  cases e1 : m ρ ih with
  | none => rw [e1] at h3; cases h3
  | some p =>
    rw [e1] at h3
    simp only [Option.bind_some] at h3
    cases e2 : g p.1 ρ p.2 with
    | none => rw [e2] at h3; cases h3
    | some p2 =>
      rw [e2] at h3
      cases h3
      refine ⟨θ, ρ, ih, _, _, h1, h2, e1, fun θ1 H1 v ev q1 r1 => ?_⟩
      exact ⟨θ1, ρ, p.2, p.1, p2.1, p2.2, q1, h2.mono ev, r1, e2, fun θ2 H2 σ2 ev2 => h4 θ2 H2 σ2 (ev.trans ev2)⟩

/-! while -/
theorem ss_while {tc : Expr} {body : List Stmt} (hp : PassesOwn (model X.prog X.w) X.A X.env X.xe) (hc : ST T X tc c) (hb : SB T X body b) : SS T X (.While tc body [] pos) (yWhile c b) := PS.le (ps_while hp hc hb) fun D σ H q => by
  obtain ⟨θ, ρ, ih, f, ρ', ih', h1, h2, h3, h4⟩ := q
  obtain ⟨n, h3⟩ := of_yWhile h3
  refine ⟨fun n σ' H' => ∃ θ1 ρ1 ih1, Ev θ H θ1 H' ∧ RH X.K X.w X.mg T θ1 H' ih1 ∧ RE X.K X.w θ1 H' ρ1 σ' ∧ whileN c b n ρ1 ih1 = some (f, ρ', ih'), ⟨n, θ, ρ, ih, .refl _ _, h1, h2, h3⟩, ?_⟩
  rintro n σ1 H1 ⟨θ1, ρ1, ih1, ev, q1, r1, e1⟩
  cases n with
  | zero => cases e1
  | succ n =>
    rw [whileN] at e1
    cases e2 : c ρ1 ih1 with
    | none => rw [e2] at e1; cases e1
    | some p =>
      rw [e2] at e1
      simp only [Option.bind_some] at e1
      obtain ⟨k, ih2⟩ := p
      refine ⟨θ1, ρ1, ih1, k, ih2, q1, r1, e2, fun θ2 H2 v ev2 q2 r2 => ?_⟩
      subst r2
      cases k with
      | false =>
        rw [if_neg Bool.false_ne_true] at e1 ⊢
        cases e1
        exact h4 θ2 H2 σ1 (ev.trans ev2) q2 (r1.mono ev2)
      | true =>
        rw [if_pos rfl] at e1
        show (if true = true then _ else _)
        rw [if_pos rfl]
        cases e3 : b ρ1 ih2 with
        | none => rw [e3] at e1; cases e1
        | some r =>
          rw [e3] at e1
          simp only [Option.bind_some] at e1
          obtain ⟨g, ρ3, ih3⟩ := r
          refine ⟨fun σ H' => ∃ θ1 ρ1 ih1, Ev θ H θ1 H' ∧ RH X.K X.w X.mg T θ1 H' ih1 ∧ RE X.K X.w θ1 H' ρ1 σ ∧ whileN c b n ρ1 ih1 = some (f, ρ', ih'), fun σ' H' z => ⟨n, Nat.lt_succ_self n, z⟩, θ2, ρ1, ih2, g, ρ3, ih3, q2, r1.mono ev2, e3, fun θ3 H3 σ3 ev3 q3 r3 => ?_⟩
          have ev' := ev.trans (ev2.trans ev3)
          cases g with
          | nx => exact ⟨θ3, ρ3, ih3, ev', q3, r3, e1⟩
          | ct => exact ⟨θ3, ρ3, ih3, ev', q3, r3, e1⟩
          | bk => cases e1; exact h4 θ3 H3 σ3 ev' q3 r3
          | rt d => cases e1; exact h4 θ3 H3 σ3 ev' q3 r3

/-! for -/
def IterOk (K : PySem.W.Frag) (w : World) (mg : Str → Option Value) (T : List (Addr × Str)) (θ0 : Th) (H0 : Hp) (s : Src) (J : It) : Prop :=
  ∀ (θ : Th) (H : Hp) (ih : IH), Lat θ0 H0 θ H → RH K w mg T θ H ih → s.gd ih = true →
    (∀ (i : Nat) (d : D), s.items[i]? = some d → J.go i H ∧ ∀ x H', J.yld i H x H' → Ev θ H θ H' ∧ RH K w mg T θ H' ih ∧ RD K w θ H' d x) ∧ J.stop s.items.length H
def simI (K : PySem.W.Frag) (w : World) (mg : Str → Option Value) (T : List (Addr × Str)) (m : Env → M Src) : TI := fun σ H R =>
  ∃ θ ρ ih s ih', RH K w mg T θ H ih ∧ RE K w θ H ρ σ ∧ m ρ ih = some (s, ih') ∧ ∀ θ' H' J, Ev θ H θ' H' → RH K w mg T θ' H' ih' → IterOk K w mg T θ' H' s J → R J H'
abbrev SI (T : List (Addr × Str)) (X : Cx) (tg e : Expr) (m : Env → M Src) : Prop := PI X tg e (simI X.K X.w X.mg T m)
theorem _root_.L2.PI.le {tg e : Expr} {t u : TI} (h : PI X tg e t) (l : ∀ σ H R, u σ H R → t σ H R) : PI X tg e u := ⟨fun pins s σ H R I q => h.run pins s σ H R I (l σ H R q)⟩
theorem drop_cons {α : Type} {l : List α} {i : Nat} (h : i < l.length) : l.drop i = l[i] :: l.drop (i + 1) := List.drop_eq_getElem_cons h
theorem ss_for {tg iter : Expr} {body : List Stmt} {mi : Env → M Src} {g : MG} (hp : PassesOwn (model X.prog X.w) X.A X.env X.xe) (hc : X.calm = true) (hi : SI T X tg iter mi) (hg : SG T X tg g) (hb : SB T X body b)
    (hs : ∀ x, foldedSetIterable iter X.env x = pure x := by intro _; rfl) : SS T X (.For tg iter body [] pos) (yFor mi g b) := PS.le (ps_for hp hc hi hg hb hs) fun D σ H q => by
  obtain ⟨θ, ρ, ih, f, ρ', ih', h1, h2, h3, h4⟩ := q
  unfold yFor at h3
  cases e1 : mi ρ ih with
  | none => rw [e1] at h3; cases h3
  | some p =>
    obtain ⟨s, ih0⟩ := p
    rw [e1] at h3
    simp only [Option.bind_some] at h3
    refine ⟨θ, ρ, ih, s, ih0, h1, h2, e1, fun θ0 H0 J ev0 q0 J0 => ?_⟩
    refine ⟨fun i n σ H => n = s.items.length - i ∧ i ≤ s.items.length ∧ ∃ θ1 ρ1 ih1, Ev θ0 H0 θ1 H ∧ RH X.K X.w X.mg T θ1 H ih1 ∧ RE X.K X.w θ1 H ρ1 σ ∧ forL s.gd g b (s.items.drop i) ρ1 ih1 = some (f, ρ', ih'),
      ⟨s.items.length, by simp, Nat.zero_le _, θ0, ρ, ih0, .refl _ _, q0, h2.mono ev0, by simpa using h3⟩, ?_⟩
    rintro i n σ1 H1 ⟨rfl, hi, θ1, ρ1, ih1, ev, q1, r1, e2⟩
    by_cases hlt : i < s.items.length
    · rw [drop_cons hlt, forL] at e2
      split at e2
      · rename_i hgd
        obtain ⟨a1, a2⟩ := J0 θ1 H1 ih1 (.ev ev) q1 hgd
        obtain ⟨go, yl⟩ := a1 i s.items[i] (List.getElem?_eq_getElem hlt)
        cases e3 : g s.items[i] ρ1 ih1 with
        | none => rw [e3] at e2; cases e2
        | some p3 =>
          rw [e3] at e2
          simp only [Option.bind_some] at e2
          cases e4 : b p3.1 p3.2 with
          | none => rw [e4] at e2; cases e2
          | some r =>
            rw [e4] at e2
            simp only [Option.bind_some] at e2
            obtain ⟨fl, ρ4, ih4⟩ := r
            refine .inr ⟨go, fun σ H => ∃ θ1 ρ1 ih1, Ev θ0 H0 θ1 H ∧ RH X.K X.w X.mg T θ1 H ih1 ∧ RE X.K X.w θ1 H ρ1 σ ∧ forL s.gd g b (s.items.drop (i + 1)) ρ1 ih1 = some (f, ρ', ih'), fun σ' H' z => ⟨s.items.length - (i + 1), by omega, rfl, hlt, z⟩, fun x H' y => ?_⟩
            obtain ⟨ev1, q2, rd⟩ := yl x H' y
            refine ⟨θ1, ρ1, ih1, _, p3.1, p3.2, q2, r1.mono ev1, rd, e3, fun θ3 H3 σ3 ev3 q3 r3 => ?_⟩
            refine ⟨θ3, p3.1, p3.2, fl, ρ4, ih4, q3, r3, e4, fun θ5 H5 σ5 ev5 q5 r5 => ?_⟩
            have ev' := ev.trans (ev1.trans (ev3.trans ev5))
            cases fl with
            | nx => exact ⟨θ5, ρ4, ih4, ev', q5, r5, e2⟩
            | ct => exact ⟨θ5, ρ4, ih4, ev', q5, r5, e2⟩
            | bk => cases e2; exact h4 θ5 H5 σ5 (ev0.trans ev') q5 r5
            | rt d => cases e2; exact h4 θ5 H5 σ5 (ev0.trans ev') q5 r5
      · cases e2
    · have e : i = s.items.length := by omega
      subst e
      rw [List.drop_length, forL] at e2
      split at e2
      · rename_i hgd
        have hJ := (J0 θ1 H1 ih1 (.ev ev) q1 hgd).2
        cases e2
        exact .inl ⟨hJ, h4 θ1 H1 σ1 (ev0.trans ev) q1 r1⟩
      · cases e2
end
end Gh
end
section
set_option Elab.async false
set_option linter.all false
set_option maxRecDepth 100000
/-! What loops walk. -/
namespace Gh
open PySem PySem.Spec PyProof.Rows L2

/-! ### dicts by entries -/
theorem ent_get {w : World} {es : Array DictEntry} {ys : List Ent} (he : es.toList = ys.map (ent w)) : es.size = ys.length ∧ ∀ (i : Nat) (y : Ent), ys[i]? = some y → ∃ e, es[i]? = some e ∧ e.key = y.2.1 ∧ e.val = y.2.2 := by
  refine ⟨by rw [← Array.length_toList, he, List.length_map], fun i y hy => ?_⟩
  refine ⟨ent w y, ?_, rfl, rfl⟩
  rw [← Array.getElem?_toList, he, List.getElem?_map, hy]
  rfl
def ItkA (w : World) (d : Addr) (ob : Obj) (ys : List Ent) : It :=
  ⟨fun i H => H d = some (.frz ob (.ext (DAt w d ys))) ∧ i < ys.length, fun i H x H' => H' = H ∧ ∃ y, ys[i]? = some y ∧ RelV x y.2.1, fun i H => H d = some (.frz ob (.ext (DAt w d ys))) ∧ ys.length ≤ i⟩
def ItiA (w : World) (d : Addr) (ob : Obj) (ys : List Ent) : It :=
  ⟨fun i H => H d = some (.frz ob (.ext (DAt w d ys))) ∧ (∀ y ∈ ys, (∃ x, RelV x y.2.1) ∧ ∃ x, RelV x y.2.2) ∧ i < ys.length, fun i H v H' => ∃ t y x z, ys[i]? = some y ∧ v = .ref t ∧ RelV x y.2.1 ∧ RelV z y.2.2 ∧ H t = none ∧ H' = upd H t (.tup [x, z]), fun i H => H d = some (.frz ob (.ext (DAt w d ys))) ∧ ys.length ≤ i⟩
section
variable {X : Cx} {pins : List (Addr × Obj)} {σ : L2.St} {H : Hp} {s : Shared} {d : Addr} {ob : Obj} {ys : List Ent}
theorem Inv.frzA (I : Inv X pins σ H s) (h : H d = some (.frz ob (.ext (DAt X.w d ys)))) :
    s.heap.get? d = some ob ∧ ob.ExactDict ∧ ∃ (es : Array DictEntry) (ep : Nat), ob.data = .dict es ep ∧ es.toList = ys.map (ent X.w) := by
  obtain ⟨h1, ⟨o, es, ep, ho, hc, hd, he⟩, _⟩ := I.hok d _ h
  rw [h1] at ho
  cases ho
  exact ⟨h1, hc, es, ep, hd, he⟩
end
section
variable {P : Program} {w : World} {K : PySem.W.Frag} {tg : Expr} {d : Addr} {o : Obj} {es : Array DictEntry} {ep : Nat}
theorem turn_keysA {ys : List Ent} (it : Addr) (hod : o.data = .dict es ep) (hvals : ∀ y ∈ ys, ∃ x, RelV x y.2.1) : Turn P w K tg (ItkA w d o ys) [it] it (fun i h => h.IsKeyIter it d i ys.length ep) where
  mem := by simp
  obj := fun i h st b hb => by
    have e : b = it := by simpa using hb
    subst e
    obtain ⟨oi, e, c, dd⟩ := st
    exact ⟨oi, e, fun v z => by rw [dd] at z; cases z⟩
  keep := fun i h h' st k => st.at fun oi e => k it (by simp) oi e
  item := by
    intro X hP hw hK hc i pins s σ H E I hf st hg
    subst hP hw hK
    obtain ⟨hd, hi⟩ := hg
    obtain ⟨f0, f1, f2, f3, f4, f5⟩ := hf it (by simp)
    obtain ⟨hgd, hx, es', ep', hdt, he⟩ := Inv.frzA I hd
    obtain ⟨rfl, rfl⟩ := dict_ep hod hdt
    obtain ⟨hsz, hen⟩ := ent_get he
    have hy : ys[i]? = some ys[i] := List.getElem?_eq_getElem hi
    obtain ⟨en, h1, h2, h3⟩ := hen i _ hy
    obtain ⟨x, rx⟩ := hvals ys[i] (List.getElem_mem hi)
    refine next_key_item st hgd hdt hsz h1 fun h' st' sb => ?_
    have I1 : Inv X pins σ H { s with heap := h' } := I.turned (t' := s.toks) (fun b ob hb e => (sb.2 b hb).trans e) f0 f1 f3 f4 f5
    obtain ⟨oi, e, c, dd⟩ := id st'
    exact ⟨en.key, rfl, go_of (s := { s with heap := h' }) e c dd (by decide) ⟨x, H, I1, by rw [h2]; exact rx, ⟨rfl, _, hy, rx⟩, st', fun b hb => (hf b hb).1⟩⟩
  done := by
    intro X hP hw hK hc i pins s σ H E I hf st hg
    subst hP hw hK
    obtain ⟨hd, hi⟩ := hg
    obtain ⟨f0, f1, f2, f3, f4, f5⟩ := hf it (by simp)
    obtain ⟨hgd, hx, es', ep', hdt, he⟩ := Inv.frzA I hd
    obtain ⟨rfl, rfl⟩ := dict_ep hod hdt
    obtain ⟨hsz, hen⟩ := ent_get he
    exact next_key_end (I.ok.hd hc) st hgd hdt hsz hi fun h' eb => ⟨rfl, I.turned (t' := s.toks) (fun b ob hb e => eb b ob hb e) f0 f1 f3 f4 f5⟩
  self := fun A i s Q E st h => by
    refine wpAny_pyIter_slot st.typeIs PySem.F.slot_dict_keyiterator_iter (wpAny_call_entry PySem.F.slot_dict_keyiterator_iter st.typeIs PySem.F.entry_dict_keyiterator_iter ?_ (PySem.F.args_dict_keyiterator_iter_1 _))
    show wpAny _ _ (ret (.ref it)) _ _ s
    exact wpAny_pure ⟨_, rfl, "dict_keyiterator", _, st.typeIs, PySem.F.slot_dict_keyiterator_next.lookup, h⟩
theorem turn_itemsA {ys : List Ent} {elts : List Expr} {kk : Nat} {tpos : Pos} (it : Addr) (hod : o.data = .dict es ep) :
    Turn P w K (.Tuple elts kk tpos) (ItiA w d o ys) [it] it (fun i h => ∃ ok ov, IsItemIter h it d i es.size ep ok ov) where
  mem := by simp
  obj := fun i h st b hb => by
    have e : b = it := by simpa using hb
    subst e
    obtain ⟨ok, ov, e⟩ := st
    exact ⟨_, e, fun v z => nomatch z⟩
  keep := fun i h h' st k => let ⟨ok, ov, e⟩ := st; ⟨ok, ov, k it (by simp) _ e⟩
  item := by
    intro X hP hw hK hc i pins s σ H E I hf st hg
    subst hP hw hK
    obtain ⟨hd, hvals, hi⟩ := hg
    obtain ⟨hgd, hx, es', ep', hdt, he⟩ := Inv.frzA I hd
    obtain ⟨rfl, rfl⟩ := dict_ep hod hdt
    obtain ⟨hsz, hen⟩ := ent_get he
    have hy : ys[i]? = some ys[i] := List.getElem?_eq_getElem hi
    obtain ⟨en, h1, h2, h3⟩ := hen i _ hy
    obtain ⟨⟨x, rx⟩, z, rz⟩ := hvals ys[i] (List.getElem_mem hi)
    have hi' : i < es'.size := by rw [hsz]; exact hi
    have hen' : es'[i] = en := by
      rw [Array.getElem?_eq_getElem hi'] at h1
      exact Option.some.inj h1
    obtain ⟨ok, ov, he2⟩ := st
    have hlt : it < s.heap.objs.size := Heap.lt_size he2
    refine DT.nextI he2 ⟨_, hgd, hx, hdt⟩ hi' fun h' ho hT hz hk => ?_
    refine ⟨_, rfl, wpAny_letOwnedTupleGo_items (s := { s with heap := h' }) ho fun h'' he' sb => ?_⟩
    rw [hen'] at hT
    have hT2 : h''.get? s.heap.objs.size = some { cls := .type "tuple", data := .seq #[en.key, en.val] } := (sb.2 _ (Nat.ne_of_gt hlt)).trans hT
    rw [h2, h3] at hT2
    have new : ObjOk X.prog X.w (upd H s.heap.objs.size (.tup [x, z])) h'' s.heap.objs.size (.tup [x, z]) :=
      ⟨by show 2 ≤ sizeLine; decide, [_, _], .cons rx (.cons rz .nil), ⟨_, hT2, rfl, _, rfl⟩⟩
    have I1 : Inv X pins σ (upd H s.heap.objs.size (.tup [x, z])) { s with heap := h'' } :=
      I.turnedNew (t' := s.toks) (ch := [it]) (fun b ob hb e => (sb.2 b (by simpa using hb)).trans (hk b ob (by simpa using hb) e)) hf (Nat.le_refl _) new
    refine ⟨.ref s.heap.objs.size, _, I1, rfl, ⟨_, _, x, z, hy, rfl, rx, rz, I.hok.fresh (Nat.le_refl _), rfl⟩, ⟨_, _, he'⟩, fun b hb => ?_⟩
    have e : b = it := by simpa using hb
    rw [e, upd_ne (Nat.ne_of_lt hlt)]
    exact (hf it (by simp)).1
  done := by
    intro X hP hw hK hc i pins s σ H E I hf st hg
    subst hP hw hK
    obtain ⟨hd, hi⟩ := hg
    obtain ⟨f0, f1, f2, f3, f4, f5⟩ := hf it (by simp)
    obtain ⟨hgd, hx, es', ep', hdt, he⟩ := Inv.frzA I hd
    obtain ⟨rfl, rfl⟩ := dict_ep hod hdt
    obtain ⟨hsz, hen⟩ := ent_get he
    obtain ⟨ok, ov, he2⟩ := st
    exact DT.endI (I.ok.hd hc) he2 ⟨_, hgd, hx, hdt⟩ (by rw [hsz]; exact hi) fun h' eb => ⟨rfl, I.turned (t' := s.toks) (fun b ob hb e => eb b ob hb e) f0 f1 f3 f4 f5⟩
  self := fun A i s Q E st h => let ⟨_, _, e⟩ := st; PySem.W.kcp_self e h
end

/-! ### rules by values -/
def iAnyV (K : PySem.W.Frag) (w : World) (tl : TE) : TI := fun σ H R => tl σ H fun x H1 => ∃ a, x = .ref a ∧
  ((∃ xs, SqL K H1 a xs) ∧ R (Itl K a) H1 ∨ (∃ xs, SqT K H1 a xs) ∧ R (Itt K a) H1 ∨ ∃ ob ys, H1 a = some (.frz ob (.ext (DAt w a ys))) ∧ (a == sysModules) = false ∧ (∀ y ∈ ys, ∃ x, RelV x y.2.1) ∧ R (ItkA w a ob ys) H1)
section
variable {X : Cx} {tg e : Expr} {tl td : TE} {apos cpos : Pos}
theorem pi_anyV (hl : PE X e tl) : PI X tg e (iAnyV X.K X.w tl) := by
  refine ⟨fun pins s σ H R I h => ?_⟩
  refine thn (hl.run pins s σ H _ I h) fun v s1 ⟨x, H1, I1, r1, a, ex, q1⟩ => ?_
  subst ex
  cases r1
  rcases q1 with ⟨⟨xs, hq⟩, q⟩ | ⟨⟨xs, hq⟩, q⟩ | ⟨ob, ys, hd, hs, hv, q⟩
  · obtain ⟨its, rv, p, hz⟩ := I1.list hq
    exact wpAny_pyIter_list p.isList (pi_one (tk := s1.toks) I1 _ (turn_list a _) ⟨_, Heap.get?_push_size _ rfl, rfl, rfl⟩ q)
  · obtain ⟨its, rv, p, hz⟩ := I1.tuple hq
    exact wpAny_pyIter_tuple (show s1.heap.IsTuple a its.toArray from p) (pi_one (tk := s1.toks) I1 _ (turn_tuple a _) ⟨_, Heap.get?_push_size _ rfl, rfl, rfl⟩ q)
  · obtain ⟨hgd, hx, es, ep, hdt, he⟩ := Inv.frzA I1 hd
    refine iter_keys hs hgd hx hdt (pi_one (tk := s1.toks) I1 _ (turn_keysA _ hdt hv) ⟨_, Heap.get?_push_size _ rfl, rfl, ?_⟩ q)
    rw [(ent_get he).1] <;> rfl
def iItemsA (w : World) (td : TE) : TI := fun σ H R => td σ H fun x H1 => ∃ d ob ys, x = .ref d ∧ H1 d = some (.frz ob (.ext (DAt w d ys))) ∧ (d == sysModules) = false ∧ R (ItiA w d ob ys) H1
theorem pi_itemsA {elts : List Expr} {kk : Nat} {tpos : Pos} (he : PE X e td) (hbase : attributeBase e "items" X.env (eval e X.env) = eval e X.env := by rfl) (hline : (apos.endLine == cpos.line) = true := by rfl) :
    PI X (.Tuple elts kk tpos) (.Call (.Attribute e "items" apos) [] [] cpos) (iItemsA X.w td) := by
  refine ⟨fun pins s σ H R I h => ?_⟩
  refine wpAny_Call_method (T := "dict") (id := "dict.items") hbase rfl hline PySem.F.plainAttrs_dict PySem.F.slot_dict_items PySem.F.type_dict_items (thn (he.run pins s σ H _ I h) fun u s1 ⟨x, H1, I1, rx, d, o, ys, ex, hd, hs, q⟩ => ?_)
  subst ex
  obtain rfl : u = Value.ref d := rx
  obtain ⟨hgd, hx, es, ep, hdt, he⟩ := Inv.frzA I1 hd
  have hm : DT.Raw s1.heap d es ep := ⟨o, hgd, hx, hdt⟩
  refine ⟨hm.typeIs, fun b hb => by cases hb; exact ⟨o, hgd, hx.2.1⟩, ?_⟩
  have I2 : Inv X pins σ H1 { s1 with heap := s1.heap.push { cls := .type "dict_items", data := .fields #[.ref d] } } := I1.kept (t' := s1.toks) fun b ob q => Heap.get?_push_of_some _ q
  have fin : wpAny (model X.prog X.w) X.A (pyIter (.ref s1.heap.objs.size)) (PIE X pins σ (.Tuple elts kk tpos) R) X.xe { s1 with heap := s1.heap.push { cls := .type "dict_items", data := .fields #[.ref d] } } := by
    refine DT.iterI (d := d) ⟨_, Heap.get?_push_size _ rfl, rfl, rfl⟩ (hm.push _) (pi_one (tk := s1.toks) I2 _ (turn_itemsA _ hdt) ⟨.none, .none, ?_⟩ q)
    exact Heap.get?_push_size _ rfl
  show wpAny _ _ (callWith cpos (.builtin "dict.items") [.ref d] [] []) _ X.xe s1
  exact method_meetsIn PySem.F.slot_dict_items PySem.F.entry_dict_items rfl (PySem.evalArgs_none ⟨rfl, hm.typeIs, PySem.F.args_dict_items_1 _, _, DT.meetsItems hs, hm, fin⟩)
end

/-! ### sources by data -/
def srcAny (d : D) (ih : IH) : Option Src := match d with
  | .tup ds => some ⟨ds, fun _ => true⟩
  | .lst ds => some ⟨ds, fun _ => true⟩
  | .dct ks _ => some ⟨ks, fun _ => true⟩
  | .obj n => match ih[n]? with
    | some (.lst ds) => some ⟨ds, fun ih => decide (ih[n]? = some (.lst ds))⟩
    | some (.lck kvs) => some ⟨kvs.map (·.1), fun ih => decide (ih[n]? = some (.lck kvs))⟩
    | _ => none
  | _ => none
def srcItems (d : D) (ih : IH) : Option Src := match d with
  | .dct ks vs => some ⟨(ks.zip vs).map fun p => .tup [p.1, p.2], fun _ => true⟩
  | .obj n => match ih[n]? with
    | some (.lck kvs) => some ⟨kvs.map fun p => .tup [p.1, p.2], fun ih => decide (ih[n]? = some (.lck kvs))⟩
    | _ => none
  | _ => none
def seqOf (d : D) (ih : IH) : Option (List D × (IH → Bool)) := match d with
  | .lst ds => some (ds, fun _ => true)
  | .obj n => match ih[n]? with
    | some (.lst ds) => some (ds, fun ih => decide (ih[n]? = some (.lst ds)))
    | _ => none
  | _ => none
def enumL (i : Nat) : List D → List D
  | [] => []
  | d :: ds => .tup [.int i, d] :: enumL (i + 1) ds
def srcEnum (d : D) (ih : IH) : Option Src := (seqOf d ih).map fun p => ⟨enumL 0 p.1, p.2⟩
def srcZip (a b : D) : Option Src := match a, b with
  | .tup x, .tup y => some ⟨(x.zip y).map fun p => .tup [p.1, p.2], fun _ => true⟩
  | .lst x, .lst y => some ⟨(x.zip y).map fun p => .tup [p.1, p.2], fun _ => true⟩
  | _, _ => none
def rngL (lo : Int) : Nat → List D
  | 0 => []
  | n + 1 => .int lo :: rngL (lo + 1) n
def srcRng (lo hi : D) : Option Src := match lo, hi with
  | .int i, .int j => if -(2 ^ 62) ≤ i ∧ i < 2 ^ 62 ∧ -(2 ^ 62) ≤ j ∧ j < 2 ^ 62 then some ⟨rngL i (j - i).toNat, fun _ => true⟩ else none
  | _, _ => none
def xSrc (f : D → IH → Option Src) (m : Env → M D) : Env → M Src := fun ρ ih => (m ρ ih).bind fun p => (f p.1 p.2).map fun s => (s, p.2)
def xSrcN (f : List D → IH → Option Src) (m : Env → M (List D)) : Env → M Src := fun ρ ih => (m ρ ih).bind fun p => (f p.1 p.2).map fun s => (s, p.2)
def srcE1 (ds : List D) (ih : IH) : Option Src := match ds with
  | [d] => srcEnum d ih
  | _ => none
def srcZ2 (ds : List D) (_ : IH) : Option Src := match ds with
  | [a, b] => srcZip a b
  | _ => none
def srcR1 (ds : List D) (_ : IH) : Option Src := match ds with
  | [a] => srcRng (.int 0) a
  | _ => none
def srcR2 (ds : List D) (_ : IH) : Option Src := match ds with
  | [a, b] => srcRng a b
  | _ => none

section
variable {K : PySem.W.Frag} {w : World} {mg : Str → Option Value} {T : List (Addr × Str)} {θ0 : Th} {H0 : Hp}
theorem enumL_get : ∀ (ds : List D) (j i : Nat) (d : D), (enumL j ds)[i]? = some d → ∃ e, ds[i]? = some e ∧ d = .tup [.int ((j + i : Nat) : Int), e]
  | [], _, _, _, h => by simp [enumL] at h
  | a :: ds, j, 0, d, h => by
    simp [enumL] at h
    exact ⟨a, rfl, by simpa using h.symm⟩
  | a :: ds, j, i + 1, d, h => by
    simp only [enumL, List.getElem?_cons_succ] at h ⊢
    obtain ⟨e, h1, h2⟩ := enumL_get ds (j + 1) i d h
    exact ⟨e, h1, by rw [h2]; congr 4; omega⟩
theorem enumL_len : ∀ (ds : List D) (j : Nat), (enumL j ds).length = ds.length
  | [], _ => rfl
  | _ :: ds, j => by rw [enumL, List.length_cons, List.length_cons, enumL_len ds]
theorem rngL_get : ∀ (n : Nat) (lo : Int) (i : Nat) (d : D), (rngL lo n)[i]? = some d → d = .int (lo + i)
  | 0, _, _, _, h => by simp [rngL] at h
  | n + 1, lo, 0, d, h => by
    simp [rngL] at h
    simpa using h.symm
  | n + 1, lo, i + 1, d, h => by
    simp only [rngL, List.getElem?_cons_succ] at h
    rw [rngL_get n (lo + 1) i d h]
    congr 1
    omega
theorem rngL_len : ∀ (n : Nat) (lo : Int), (rngL lo n).length = n
  | 0, _ => rfl
  | n + 1, lo => by rw [rngL, List.length_cons, rngL_len n]
theorem getElem_of {ds : List D} {vs : List V} (r : RDs K w θ0 H0 ds vs) {i : Nat} {d : D} (h : ds[i]? = some d) : ∃ v, vs[i]? = some v ∧ RD K w θ0 H0 d v := r.get h
theorem RDs.get' {ds : List D} {vs : List V} (r : RDs K w θ0 H0 ds vs) {i : Nat} {v : V} (h : vs[i]? = some v) {d : D} (hd : ds[i]? = some d) : RD K w θ0 H0 d v := by
  obtain ⟨v', h1, h2⟩ := r.get hd
  rw [h] at h1
  cases h1
  exact h2
theorem REs.get : ∀ {ks vs : List D} {ys : List Ent}, REs K w θ0 H0 ks vs ys → ∀ {i : Nat} {y : Ent}, ys[i]? = some y → ∃ kd vd kv vv, ks[i]? = some kd ∧ vs[i]? = some vd ∧ RelV kv y.2.1 ∧ RD K w θ0 H0 kd kv ∧ RelV vv y.2.2 ∧ RD K w θ0 H0 vd vv
  | _, _, _, .nil, i, y, h => by simp at h
  | _, _, _, .cons h1 h2 h3 h4 h5 r, 0, y, h => by
    simp at h
    subst h
    exact ⟨_, _, _, _, rfl, rfl, h3, h2, h5, h4⟩
  | _, _, _, .cons h1 h2 h3 h4 h5 r, i + 1, y, h => by
    obtain ⟨kd, vd, kv, vv, q⟩ := REs.get r (i := i) (y := y) (by simpa using h)
    exact ⟨kd, vd, kv, vv, by simpa using q.1, by simpa using q.2.1, q.2.2⟩
theorem REs.vals {ks vs : List D} {ys : List Ent} (r : REs K w θ0 H0 ks vs ys) : ∀ y ∈ ys, (∃ x, RelV x y.2.1) ∧ ∃ x, RelV x y.2.2 := fun y hy => by
  obtain ⟨i, hi⟩ := List.mem_iff_getElem?.mp hy
  obtain ⟨kd, vd, kv, vv, q⟩ := r.get hi
  exact ⟨⟨_, q.2.2.1⟩, _, q.2.2.2.2.1⟩
/-- a list or tuple that can't change -/
theorem iter_seqV {a : Addr} {ds : List D} {vs : List V} (hs : ∀ θ H, Lat θ0 H0 θ H → SqL K H a vs) (r : RDs K w θ0 H0 ds vs) : IterOk K w mg T θ0 H0 ⟨ds, fun _ => true⟩ (Itl K a) := by
  intro θ H ih ev h _
  have q := hs θ H ev
  refine ⟨fun i d hd => ?_, vs, q, by rw [r.length]; exact Nat.le_refl _⟩
  obtain ⟨v, h1, h2⟩ := r.get hd
  refine ⟨⟨vs, v, q, h1⟩, fun x H' y => ?_⟩
  obtain ⟨rfl, y⟩ := y
  have e := y vs q
  rw [h1] at e
  cases e
  exact ⟨.refl _ _, h, h2.lat ev⟩
theorem iter_tupV {a : Addr} {ds : List D} {vs : List V} (hs : SqT K H0 a vs) (r : RDs K w θ0 H0 ds vs) : IterOk K w mg T θ0 H0 ⟨ds, fun _ => true⟩ (Itt K a) := by
  intro θ H ih ev h _
  have q := ev.sqT hs
  refine ⟨fun i d hd => ?_, vs, q, by rw [r.length]; exact Nat.le_refl _⟩
  obtain ⟨v, h1, h2⟩ := r.get hd
  refine ⟨⟨vs, v, q, h1⟩, fun x H' y => ?_⟩
  obtain ⟨rfl, y⟩ := y
  have e := y vs q
  rw [h1] at e
  cases e
  exact ⟨.refl _ _, h, h2.lat ev⟩
theorem iter_objL {n : Nat} {a : Addr} {ds : List D} (hn : θ0.h[n]? = some a) : IterOk K w mg T θ0 H0 ⟨ds, fun ih => decide (ih[n]? = some (.lst ds))⟩ (Itl K a) := by
  intro θ H ih ev h hg
  have hg := of_decide_eq_true hg
  have hn' : θ.h[n]? = some a := ev.at_ hn
  have ro := h.at_ n a _ hn' hg
  cases ro with
  | @lst _ vs q r =>
    have q' : SqL K H a vs := .of q
    refine ⟨fun i d hd => ?_, vs, q', by rw [r.length]; exact Nat.le_refl _⟩
    obtain ⟨v, h1, h2⟩ := r.get hd
    refine ⟨⟨vs, v, q', h1⟩, fun x H' y => ?_⟩
    obtain ⟨rfl, y⟩ := y
    have e := y vs q'
    rw [h1] at e
    cases e
    exact ⟨.refl _ _, h, h2⟩
theorem iter_keysV {a : Addr} {ob : Obj} {ks vs : List D} {ys : List Ent} (hd : H0 a = some (.frz ob (.ext (DAt w a ys)))) (r : REs K w θ0 H0 ks vs ys) : IterOk K w mg T θ0 H0 ⟨ks, fun _ => true⟩ (ItkA w a ob ys) := by
  intro θ H ih ev h _
  have q := ev.im _ _ hd rfl
  refine ⟨fun i d hi => ?_, q, by rw [r.length.1]; exact Nat.le_refl _⟩
  have hl : i < ys.length := by rw [r.length.1]; exact (List.getElem?_eq_some_iff.mp hi).1
  refine ⟨⟨q, hl⟩, fun x H' y => ?_⟩
  obtain ⟨rfl, z, hz, rz⟩ := y
  obtain ⟨kd, vd, kv, vv, e1, e2, e3, e4, e5, e6⟩ := r.get hz
  rw [hi] at e1
  cases e1
  cases RelV.inj rz e3
  exact ⟨.refl _ _, h, e4.lat ev⟩
theorem iter_keysH {n : Nat} {a : Addr} {ob : Obj} {kvs : List (D × D)} {ys : List Ent} (hn : θ0.h[n]? = some a) (hd : H0 a = some (.frz ob (.ext (DAt w a ys)))) (r : REs K w θ0 H0 (kvs.map (·.1)) (kvs.map (·.2)) ys) : IterOk K w mg T θ0 H0 ⟨kvs.map (·.1), fun ih => decide (ih[n]? = some (.lck kvs))⟩ (ItkA w a ob ys) := by
  intro θ H ih ev h _
  exact iter_keysV (mg := mg) (T := T) hd r θ H ih ev h rfl
theorem pair_up {a : Addr} {θ : Th} {H : Hp} {ih : IH} {x y : V} {d e : D} (h : RH K w mg T θ H ih) (ha : H a = none) (rx : RD K w θ H d x) (ry : RD K w θ H e y) : Ev θ H θ (upd H a (.tup [x, y])) ∧ RH K w mg T θ (upd H a (.tup [x, y])) ih ∧ RD K w θ (upd H a (.tup [x, y])) (.tup [d, e]) (.ref a) :=
  ⟨.new ha, h.new ha, .tup (.of upd_same) (.cons (rx.mono (.new ha)) (.cons (ry.mono (.new ha)) .nil))⟩
theorem iter_itemsV {a : Addr} {ob : Obj} {kvs : List (D × D)} {ys : List Ent} {g : IH → Bool} (hd : H0 a = some (.frz ob (.ext (DAt w a ys)))) (r : REs K w θ0 H0 (kvs.map (·.1)) (kvs.map (·.2)) ys) : IterOk K w mg T θ0 H0 ⟨kvs.map fun p => .tup [p.1, p.2], g⟩ (ItiA w a ob ys) := by
  intro θ H ih ev h _
  have q := ev.im _ _ hd rfl
  have hl := r.length.1
  rw [List.length_map] at hl
  refine ⟨fun i d hi => ?_, q, by show ys.length ≤ (kvs.map _).length; rw [List.length_map, hl]; exact Nat.le_refl _⟩
  have hi : (kvs.map fun p => D.tup [p.1, p.2])[i]? = some d := hi
  rw [List.getElem?_map] at hi
  cases e : kvs[i]? with
  | none => rw [e] at hi; cases hi
  | some p =>
    rw [e] at hi
    simp only [Option.map_some, Option.some.injEq] at hi
    subst hi
    refine ⟨⟨q, r.vals, by rw [hl]; exact (List.getElem?_eq_some_iff.mp e).1⟩, fun x H' y => ?_⟩
    obtain ⟨t, y, x1, x2, hy, rfl, r1, r2, ht, rfl⟩ := y
    obtain ⟨kd, vd, kv, vv, e1, e2, e3, e4, e5, e6⟩ := r.get hy
    rw [List.getElem?_map, e] at e1 e2
    cases e1
    cases e2
    cases RelV.inj r1 e3
    cases RelV.inj r2 e5
    exact pair_up h ht (e4.lat ev) (e6.lat ev)
theorem iter_enum {a : Addr} {ds : List D} {g : IH → Bool} (J0 : IterOk K w mg T θ0 H0 ⟨ds, g⟩ (Itl K a)) : IterOk K w mg T θ0 H0 ⟨enumL 0 ds, g⟩ (Ite K a) := by
  intro θ H ih ev h hg
  obtain ⟨a1, a2⟩ := J0 θ H ih ev h hg
  obtain ⟨vs, q, hl⟩ := a2
  refine ⟨fun i d hi => ?_, vs, q, by rw [enumL_len]; exact hl⟩
  obtain ⟨e, h1, rfl⟩ := enumL_get ds 0 i d hi
  obtain ⟨⟨xs, x, q1, q2⟩, y0⟩ := a1 i e h1
  refine ⟨⟨xs, x, q1, q2⟩, fun v H' y => ?_⟩
  obtain ⟨t, z, rfl, ht, rfl, hy⟩ := y
  obtain ⟨_, _, rd⟩ := y0 z H ⟨rfl, hy⟩
  have := pair_up h ht (.int ((i : Nat) : Int)) rd
  simpa using this
end

section
variable {T : List (Addr × Str)} {X : Cx} {tg e e2 : Expr} {m : Env → M D} {ms : Env → M (List D)} {pos p apos cpos tpos : Pos} {elts : List Expr} {kk : Nat}
theorem si_any (h : SE T X e m) : SI T X tg e (xSrc srcAny m) := PI.le (pi_anyV h) fun σ H R q => by
  obtain ⟨θ, ρ, ih, s, ih', h1, h2, h3, h4⟩ := q
  unfold xSrc at h3
  cases e1 : m ρ ih with
  | none => rw [e1] at h3; cases h3
  | some p =>
    rw [e1] at h3
    simp only [Option.bind_some] at h3
    cases e2 : srcAny p.1 p.2 with
    | none => rw [e2] at h3; cases h3
    | some s' =>
      rw [e2] at h3
      cases h3
      refine ⟨θ, ρ, ih, _, _, h1, h2, e1, fun θ1 H1 v ev q1 r1 => ?_⟩
      obtain ⟨d, ih1⟩ := p
      dsimp only at e2 r1 q1 h4
      cases r1 with
      | tup a r => cases e2; exact ⟨_, rfl, .inr (.inl ⟨⟨_, a⟩, h4 θ1 H1 _ ev q1 (iter_tupV a r)⟩)⟩
      | lst a b r => cases e2; exact ⟨_, rfl, .inl ⟨⟨_, .inl b⟩, h4 θ1 H1 _ ev q1 (iter_seqV (fun θ H ev => .inl (ev.rdL a b).2) r)⟩⟩
      | dct a h1 h2 h3 h5 r => cases e2; exact ⟨_, rfl, .inr (.inr ⟨_, _, h1, h2, fun y hy => (r.vals y hy).1, h4 θ1 H1 _ ev q1 (iter_keysV h1 r)⟩)⟩
      | @obj n a hn =>
        unfold srcAny at e2
        simp only at e2
        split at e2
        · rename_i ds hk
          cases e2
          have ro := q1.at_ n a _ hn hk
          cases ro with
          | lst z r => exact ⟨_, rfl, .inl ⟨⟨_, .of z⟩, h4 θ1 H1 _ ev q1 (iter_objL hn)⟩⟩
        · rename_i kvs hk
          cases e2
          have ro := q1.at_ n a _ hn hk
          cases ro with
          | lck z z1 z2 z3 r => exact ⟨_, rfl, .inr (.inr ⟨_, _, z, z1, fun y hy => (r.vals y hy).1, h4 θ1 H1 _ ev q1 (iter_keysH hn z r)⟩)⟩
        · cases e2
      | _ => cases e2
theorem si_items (h : SE T X e m) (hbase : attributeBase e "items" X.env (eval e X.env) = eval e X.env := by rfl) (hline : (apos.endLine == cpos.line) = true := by rfl) : SI T X (.Tuple elts kk tpos) (.Call (.Attribute e "items" apos) [] [] cpos) (xSrc srcItems m) := PI.le (pi_itemsA h hbase hline) fun σ H R q => by
  obtain ⟨θ, ρ, ih, s, ih', h1, h2, h3, h4⟩ := q
  unfold xSrc at h3
  cases e1 : m ρ ih with
  | none => rw [e1] at h3; cases h3
  | some p =>
    rw [e1] at h3
    simp only [Option.bind_some] at h3
    cases e2 : srcItems p.1 p.2 with
    | none => rw [e2] at h3; cases h3
    | some s' =>
      rw [e2] at h3
      cases h3
      refine ⟨θ, ρ, ih, _, _, h1, h2, e1, fun θ1 H1 v ev q1 r1 => ?_⟩
      obtain ⟨d, ih1⟩ := p
      dsimp only at e2 r1 q1 h4
      cases r1 with
      | @dct ks vs _ _ _ a h1 h2 h3 h5 r =>
        cases e2
        obtain ⟨z1, z2⟩ := zip_fst r.length.2
        exact ⟨_, _, _, rfl, h1, h2, h4 θ1 H1 _ ev q1 (iter_itemsV h1 (by rw [z1, z2]; exact r))⟩
      | @obj n a hn =>
        unfold srcItems at e2
        simp only at e2
        split at e2
        · rename_i kvs hk
          cases e2
          have ro := q1.at_ n a _ hn hk
          cases ro with
          | lck z z1 z2 z3 r => exact ⟨_, _, _, rfl, z, z1, h4 θ1 H1 _ ev q1 (iter_itemsV z r)⟩
        · cases e2
      | _ => cases e2
theorem seqOf_ok {K : PySem.W.Frag} {w : World} {mg : Str → Option Value} {θ : Th} {H : Hp} {ih : IH} {d : D} {v : V} {ds : List D} {g : IH → Bool} (h : RH K w mg T θ H ih) (r : RD K w θ H d v) (e : seqOf d ih = some (ds, g)) :
    ∃ a vs, v = .ref a ∧ SqL K H a vs ∧ RDs K w θ H ds vs ∧ IterOk K w mg T θ H ⟨ds, g⟩ (Itl K a) := by
  cases r with
  | lst a b r => cases e; exact ⟨_, _, rfl, .inl b, r, iter_seqV (fun θ H ev => .inl (ev.rdL a b).2) r⟩
  | @obj n a hn =>
    unfold seqOf at e
    simp only at e
    split at e
    · rename_i ds hk
      cases e
      have ro := h.at_ n a _ hn hk
      cases ro with
      | lst z r => exact ⟨_, _, rfl, .of z, r, iter_objL hn⟩
    · cases e
  | _ => cases e
theorem si_enum (hg : Gl X "enumerate") (hm : X.mg "enumerate" = none) (ha : SA T X [e] ms) (hs : starEach [e] X.env = [(false, eval e X.env)] := by rfl) : SI T X (.Tuple elts kk tpos) (.Call (.Name "enumerate" p) [e] [] pos) (xSrcN srcE1 ms) := PI.le (pi_enum hg hm ha hs) fun σ H R q => by
  obtain ⟨θ, ρ, ih, s, ih', h1, h2, h3, h4⟩ := q
  unfold xSrcN at h3
  cases e1 : ms ρ ih with
  | none => rw [e1] at h3; cases h3
  | some p =>
    rw [e1] at h3
    simp only [Option.bind_some] at h3
    cases e2 : srcE1 p.1 p.2 with
    | none => rw [e2] at h3; cases h3
    | some s' =>
      rw [e2] at h3
      cases h3
      refine ⟨θ, ρ, ih, _, _, h1, h2, e1, fun θ1 H1 v ev q1 r1 => ?_⟩
      obtain ⟨ds, ih1⟩ := p
      dsimp only at e2 r1 q1 h4
      unfold srcE1 at e2
      split at e2
      · rename_i d
        unfold srcEnum at e2
        cases e3 : seqOf d ih1 with
        | none => rw [e3] at e2; cases e2
        | some pr =>
          obtain ⟨ds, g⟩ := pr
          rw [e3] at e2
          cases e2
          cases r1 with
          | cons r rr =>
            cases rr
            obtain ⟨a, vs, rfl, hq, rds, J⟩ := seqOf_ok q1 r e3
            exact ⟨a, vs, rfl, hq, h4 θ1 H1 _ ev q1 (iter_enum J)⟩
      · cases e2
theorem zip_get {α β : Type} {xs : List α} {ys : List β} {i : Nat} {p : α × β} (h : (xs.zip ys)[i]? = some p) : xs[i]? = some p.1 ∧ ys[i]? = some p.2 := by
  rw [List.getElem?_zip_eq_some] at h
  exact h
theorem si_zip (hg : Gl X "zip") (hm : X.mg "zip" = none) (ha : SA T X [e, e2] ms)
    (hs : starEach [e, e2] X.env = (false, eval e X.env) :: starEach [e2] X.env := by rfl) (hpl : (backTo pos (starEach [e2] X.env)).any (·.1) = false := by rfl) : SI T X (.Tuple elts kk tpos) (.Call (.Name "zip" p) [e, e2] [] pos) (xSrcN srcZ2 ms) := PI.le (RZ.pi_zipA hg hm ha hs hpl) fun σ H R q => by
  obtain ⟨θ, ρ, ih, s, ih', h1, h2, h3, h4⟩ := q
  unfold xSrcN at h3
  cases e1 : ms ρ ih with
  | none => rw [e1] at h3; cases h3
  | some p =>
    rw [e1] at h3
    simp only [Option.bind_some] at h3
    cases e2 : srcZ2 p.1 p.2 with
    | none => rw [e2] at h3; cases h3
    | some s' =>
      rw [e2] at h3
      cases h3
      refine ⟨θ, ρ, ih, _, _, h1, h2, e1, fun θ1 H1 v ev q1 r1 => ?_⟩
      obtain ⟨ds, ih1⟩ := p
      dsimp only at e2 r1 q1 h4
      unfold srcZ2 at e2
      split at e2
      · rename_i da db
        cases r1 with
        | cons ra rr =>
          cases rr with
          | cons rb rr =>
            cases rr
            unfold srcZip at e2
            split at e2
            · rename_i x y
              cases e2
              cases ra with
              | @tup _ a vs sa ra =>
                cases rb with
                | @tup _ b us sb rb =>
                  refine ⟨a, b, vs, us, rfl, .inr ⟨sa, sb, h4 θ1 H1 _ ev q1 ?_⟩⟩
                  intro θ2 H2 ih2 ev2 h2' _
                  have qa := ev2.sqT sa
                  have qb := ev2.sqT sb
                  have la := ra.length
                  have lb := rb.length
                  refine ⟨fun i d hi => ?_, vs, us, qa, qb, ?_⟩
                  · have hi : ((x.zip y).map fun p => D.tup [p.1, p.2])[i]? = some d := hi
                    rw [List.getElem?_map] at hi
                    cases e5 : (x.zip y)[i]? with
                    | none => rw [e5] at hi; cases hi
                    | some pr =>
                      rw [e5] at hi
                      simp only [Option.map_some, Option.some.injEq] at hi
                      subst hi
                      obtain ⟨g1, g2⟩ := zip_get e5
                      obtain ⟨v1, k1, k2⟩ := ra.get g1
                      obtain ⟨v2, k3, k4⟩ := rb.get g2
                      refine ⟨⟨vs, us, v1, v2, qa, qb, k1, k3⟩, fun z H' yl => ?_⟩
                      obtain ⟨t, x', y', rfl, ht, rfl, y1, y2⟩ := yl
                      have z1 := y1 vs qa
                      have z2 := y2 us qb
                      rw [k1] at z1
                      rw [k3] at z2
                      cases z1
                      cases z2
                      exact pair_up h2' ht (k2.lat ev2) (k4.lat ev2)
                  · show vs.length ≤ ((x.zip y).map _).length ∨ us.length ≤ ((x.zip y).map _).length
                    rw [List.length_map, List.length_zip]
                    omega
            · rename_i x y
              cases e2
              cases ra with
              | @lst _ a vs fa sa ra =>
                cases rb with
                | @lst _ b us fb sb rb =>
                  refine ⟨a, b, vs, us, rfl, .inl ⟨.inl sa, .inl sb, h4 θ1 H1 _ ev q1 ?_⟩⟩
                  intro θ2 H2 ih2 ev2 h2' _
                  have qa : SqL X.K H2 a vs := .inl (ev2.rdL fa sa).2
                  have qb : SqL X.K H2 b us := .inl (ev2.rdL fb sb).2
                  have la := ra.length
                  have lb := rb.length
                  refine ⟨fun i d hi => ?_, vs, us, qa, qb, ?_⟩
                  · have hi : ((x.zip y).map fun p => D.tup [p.1, p.2])[i]? = some d := hi
                    rw [List.getElem?_map] at hi
                    cases e5 : (x.zip y)[i]? with
                    | none => rw [e5] at hi; cases hi
                    | some pr =>
                      rw [e5] at hi
                      simp only [Option.map_some, Option.some.injEq] at hi
                      subst hi
                      obtain ⟨g1, g2⟩ := zip_get e5
                      obtain ⟨v1, k1, k2⟩ := ra.get g1
                      obtain ⟨v2, k3, k4⟩ := rb.get g2
                      refine ⟨⟨vs, us, v1, v2, qa, qb, k1, k3⟩, fun z H' yl => ?_⟩
                      obtain ⟨t, x', y', rfl, ht, rfl, y1, y2⟩ := yl
                      have z1 := y1 vs qa
                      have z2 := y2 us qb
                      rw [k1] at z1
                      rw [k3] at z2
                      cases z1
                      cases z2
                      exact pair_up h2' ht (k2.lat ev2) (k4.lat ev2)
                  · show vs.length ≤ ((x.zip y).map _).length ∨ us.length ≤ ((x.zip y).map _).length
                    rw [List.length_map, List.length_zip]
                    omega
            · cases e2
      · cases e2
theorem iter_rng {K : PySem.W.Frag} {w : World} {mg : Str → Option Value} {θ0 : Th} {H0 : Hp} {lo : Int} {n : Nat} : IterOk K w mg T θ0 H0 ⟨rngL lo n, fun _ => true⟩ (Itr lo n) := by
  intro θ H ih ev h _
  refine ⟨fun i d hi => ?_, by show n ≤ (rngL lo n).length; rw [rngL_len]; exact Nat.le_refl _⟩
  have hl := (List.getElem?_eq_some_iff.mp hi).1
  have hl : i < (rngL lo n).length := hl
  rw [rngL_len] at hl
  refine ⟨hl, fun x H' y => ?_⟩
  obtain ⟨rfl, rfl⟩ := y
  rw [rngL_get n lo i d hi]
  exact ⟨.refl _ _, h, .int _⟩
theorem si_rng1 (hg : Gl X "range") (hm : X.mg "range" = none) (ha : SA T X [e] ms) (hs : starEach [e] X.env = [(false, eval e X.env)] := by rfl) : SI T X tg (.Call (.Name "range" p) [e] [] pos) (xSrcN srcR1 ms) := PI.le (pi_range1 hg hm ha hs) fun σ H R q => by
  obtain ⟨θ, ρ, ih, s, ih', h1, h2, h3, h4⟩ := q
  unfold xSrcN at h3
  cases e1 : ms ρ ih with
  | none => rw [e1] at h3; cases h3
  | some p =>
    rw [e1] at h3
    simp only [Option.bind_some] at h3
    cases e2 : srcR1 p.1 p.2 with
    | none => rw [e2] at h3; cases h3
    | some s' =>
      rw [e2] at h3
      cases h3
      refine ⟨θ, ρ, ih, _, _, h1, h2, e1, fun θ1 H1 v ev q1 r1 => ?_⟩
      obtain ⟨ds, ih1⟩ := p
      dsimp only at e2 r1 q1 h4
      unfold srcR1 at e2
      split at e2
      · rename_i d
        cases r1 with
        | cons r rr =>
          cases rr
          cases r with
          | int j =>
            unfold srcRng at e2
            simp only at e2
            split at e2
            · rename_i hb
              cases e2
              refine ⟨j, rfl, hb.2.2.1, hb.2.2.2, h4 θ1 H1 _ ev q1 ?_⟩
              rw [Int.sub_zero]
              exact iter_rng
            · cases e2
          | _ => cases e2
      · cases e2
theorem si_rng2 (hg : Gl X "range") (hm : X.mg "range" = none) (ha : SA T X [e, e2] ms) (hs : starEach [e, e2] X.env = [(false, eval e X.env), (false, eval e2 X.env)] := by rfl) (hs2 : starEach [e2] X.env = [(false, eval e2 X.env)] := by rfl) : SI T X tg (.Call (.Name "range" p) [e, e2] [] pos) (xSrcN srcR2 ms) := PI.le (pi_range2 hg hm ha hs hs2) fun σ H R q => by
  obtain ⟨θ, ρ, ih, s, ih', h1, h2, h3, h4⟩ := q
  unfold xSrcN at h3
  cases e1 : ms ρ ih with
  | none => rw [e1] at h3; cases h3
  | some p =>
    rw [e1] at h3
    simp only [Option.bind_some] at h3
    cases e2 : srcR2 p.1 p.2 with
    | none => rw [e2] at h3; cases h3
    | some s' =>
      rw [e2] at h3
      cases h3
      refine ⟨θ, ρ, ih, _, _, h1, h2, e1, fun θ1 H1 v ev q1 r1 => ?_⟩
      obtain ⟨ds, ih1⟩ := p
      dsimp only at e2 r1 q1 h4
      unfold srcR2 at e2
      split at e2
      · rename_i da db
        cases r1 with
        | cons ra rr =>
          cases rr with
          | cons rb rr =>
            cases rr
            unfold srcRng at e2
            split at e2
            · rename_i i j
              split at e2
              · rename_i hb
                cases e2
                cases ra
                cases rb
                exact ⟨i, j, rfl, hb, h4 θ1 H1 _ ev q1 iter_rng⟩
              · cases e2
            · cases e2
      · cases e2
end
end Gh
end
section
set_option Elab.async false
set_option linter.all false
set_option maxRecDepth 100000
/-! Comprehensions of any number of clauses. -/
namespace Gh
open PySem PySem.Spec PyProof.Rows L2

theorem turn_lastL {elt : Expr} {gens : List Comprehension} {scope : Scope} {pos : Pos} {d : Nat} {it acc : Value} {env : PySem.Env} {tg iter : Expr} {ifs : List Expr} (h : gens[d]? = some ⟨tg, iter, ifs, 0⟩) (hn : gens[d + 1]? = none) :
    compTurn (.ListComp elt gens scope pos) d it acc env = (do
      standAt iter.pos
      match ← pyNext it with
      | none => pure (.done .next)
      | some v =>
        letOwnedTupleGo tg it v
        assign tg env v
        let mut ok := true
        for c in ifs do
          if ok then ok ← isTrue c env (eval c env)
        if ok then
          (do let _ ← call (.builtin "list.append") [acc, ← eval elt env])
        again (.compLoop (.ListComp elt gens scope pos) d it acc env)) := by
  unfold compTurn
  simp only [h, hn]
  rfl
theorem turn_midL {elt : Expr} {gens : List Comprehension} {scope : Scope} {pos : Pos} {d : Nat} {it acc : Value} {env : PySem.Env} {tg iter tg1 iter1 : Expr} {ifs ifs1 : List Expr} (h : gens[d]? = some ⟨tg, iter, ifs, 0⟩) (hn : gens[d + 1]? = some ⟨tg1, iter1, ifs1, 0⟩) :
    compTurn (.ListComp elt gens scope pos) d it acc env = (do
      standAt iter.pos
      match ← pyNext it with
      | none => pure (.done .next)
      | some v =>
        letOwnedTupleGo tg it v
        assign tg env v
        let mut ok := true
        for c in ifs do
          if ok then ok ← isTrue c env (eval c env)
        if ok then
          let x ← eval iter1 env
          standAt iter1.pos
          let x ← foldedSetIterable iter1 env x
          let _ ← runOwn (.compStart (.ListComp elt gens scope pos) (d + 1) (← holding [x] (pyIter x)) acc env) env
        again (.compLoop (.ListComp elt gens scope pos) d it acc env)) := by
  unfold compTurn
  simp only [h, hn]
  rfl
theorem turn_lastD {kx vx : Expr} {gens : List Comprehension} {scope : Scope} {pos : Pos} {d : Nat} {it : Value} {D : Addr} {env : PySem.Env} {tg iter : Expr} {ifs : List Expr} (h : gens[d]? = some ⟨tg, iter, ifs, 0⟩) (hn : gens[d + 1]? = none) :
    compTurn (.DictComp kx vx gens scope pos) d it (.ref D) env = (do
      standAt iter.pos
      match ← pyNext it with
      | none => pure (.done .next)
      | some v =>
        letOwnedTupleGo tg it v
        assign tg env v
        let mut ok := true
        for c in ifs do
          if ok then ok ← isTrue c env (eval c env)
        if ok then
          (do
            let kv ← eval kx env
            let vv ← holding [kv] (eval vx env)
            standAt { kx.pos with endLine := vx.pos.endLine, endCol := vx.pos.endCol }
            holding [kv, vv] (dictSet D kv vv))
        again (.compLoop (.DictComp kx vx gens scope pos) d it (.ref D) env)) := by
  unfold compTurn
  simp only [h, hn]
  rfl
theorem turn_midD {kx vx : Expr} {gens : List Comprehension} {scope : Scope} {pos : Pos} {d : Nat} {it : Value} {D : Addr} {env : PySem.Env} {tg iter tg1 iter1 : Expr} {ifs ifs1 : List Expr} (h : gens[d]? = some ⟨tg, iter, ifs, 0⟩) (hn : gens[d + 1]? = some ⟨tg1, iter1, ifs1, 0⟩) :
    compTurn (.DictComp kx vx gens scope pos) d it (.ref D) env = (do
      standAt iter.pos
      match ← pyNext it with
      | none => pure (.done .next)
      | some v =>
        letOwnedTupleGo tg it v
        assign tg env v
        let mut ok := true
        for c in ifs do
          if ok then ok ← isTrue c env (eval c env)
        if ok then
          let x ← eval iter1 env
          standAt iter1.pos
          let x ← foldedSetIterable iter1 env x
          let _ ← runOwn (.compStart (.DictComp kx vx gens scope pos) (d + 1) (← holding [x] (pyIter x)) (.ref D) env) env
        again (.compLoop (.DictComp kx vx gens scope pos) d it (.ref D) env)) := by
  unfold compTurn
  simp only [h, hn]
  rfl

/-- what a turn asks -/
def turnWp (M : Model) (A : Around) (env : PySem.Env) (it : Value) (tg : Expr) (ifs : List Expr) (EE : Value → Shared → Prop) (stop next body : Shared → Prop) (s : Shared) : Prop :=
  wpAny M A (pyNext it) (fun r s₁ => match r with
    | none => stop s₁
    | some v => wpAny M A (letOwnedTupleGo tg it v) (fun _ s₁' => wpAny M A (assign tg env v) (fun _ s₂ =>
        wpAny M A (forIn ifs true fun c r => if r = true then do let ok ← PySem.isTrue c env (eval c env); pure (ForInStep.yield ok) else pure (ForInStep.yield r)) (fun ok s₃ =>
          if ok = true then body s₃ else next s₃) EE s₂) EE s₁') EE s₁) EE s
abbrev EEn (M : Model) (A : Around) (env : PySem.Env) (R : Result → Shared → Prop) : Value → Shared → Prop := notedBy M A env fun e s' => R (.error e) s'
/-- the loop of a clause -/
def LoopOk (M : Model) (A : Around) (env : PySem.Env) (code : Code) (it : Value) (tg : Expr) (ifs : List Expr) (Bd : (Value → Shared → Prop) → (Shared → Prop) → Shared → Prop) : Prop :=
  ∀ (R : Result → Shared → Prop) (I : Nat → Shared → Prop), (∀ n s, I n s → turnWp M A env it tg ifs (EEn M A env R) (fun s => R (.ok .next) s) (fun s => ∃ m, m < n ∧ I m s) (Bd (EEn M A env R) fun s => ∃ m, m < n ∧ I m s) s) →
    ∀ (n : Nat) (s : Shared), I n s → codeAny M A code R s
def bdL (M : Model) (A : Around) (env : PySem.Env) (acc : Value) (elt : Expr) : (Value → Shared → Prop) → (Shared → Prop) → Shared → Prop := fun EE N s => wpAny M A (eval elt env) (fun x s => wpAny M A (call (.builtin "list.append") [acc, x]) (fun _ s => N s) EE s) EE s
def bdD (M : Model) (A : Around) (env : PySem.Env) (acc : Addr) (kx vx : Expr) : (Value → Shared → Prop) → (Shared → Prop) → Shared → Prop := fun EE N s => wpAny M A (eval kx env) (fun x s => wpAny M A (eval vx env) (fun y s => wpAny M A (dictSet acc x y) (fun _ s => N s) EE s) EE s) EE s
def bdM (M : Model) (A : Around) (env : PySem.Env) (acc : Value) (e : Expr) (d : Nat) (iter1 : Expr) : (Value → Shared → Prop) → (Shared → Prop) → Shared → Prop := fun EE N s => wpAny M A (eval iter1 env) (fun x s => wpAny M A (pyIter x) (fun it1 s =>
  codeAny M A (.compStart e (d + 1) it1 acc env) (fun r s' => match r with
    | .ok _ => N s'
    | .error _ => False) s) EE s) EE s
section
variable {prog : Program} {w : World} {A : Around} {scope : Scope} {pos : Pos} {d : Nat} {it acc : Value} {env : PySem.Env} {gens : List Comprehension} {tg iter tg1 iter1 : Expr} {ifs ifs1 : List Expr}
theorem loop_lastL {elt : Expr} (h : gens[d]? = some ⟨tg, iter, ifs, 0⟩) (hn : gens[d + 1]? = none) : LoopOk (model prog w) A env (.compLoop (.ListComp elt gens scope pos) d it acc env) it tg ifs (bdL (model prog w) A env acc elt) := fun R I turn n s hI => by
  refine codeAny_loop rfl I (fun n s hI => ?_) n hI
  show wpAny _ A ((compTurn (.ListComp elt gens scope pos) d it acc env).onRaise (fun x => do noteFrame x env; theTreesLotGoes x)) _ _ s
  refine wpAny_noted ?_
  rw [turn_lastL h hn]
  refine wpAny_bind (wpAny_standAt (wpAny_bind (wpAny_mono (turn n s hI) (fun r s₁ h₁ => ?_) fun _ _ h' => h')))
  cases r with
  | none => exact wpAny_pure h₁
  | some v =>
    refine wpAny_bind (wpAny_mono h₁ (fun _ s₁' h₁' => ?_) fun _ _ h' => h')
    refine wpAny_bind (wpAny_mono h₁' (fun _ s₂ h₂ => wpAny_bind (wpAny_mono h₂ (fun ok s₃ h₃ => ?_) fun _ _ h' => h')) fun _ _ h' => h')
    cases ok with
    | false => exact wpAny_pure ⟨rfl, h₃⟩
    | true =>
      exact wpAny_bind (wpAny_bind (wpAny_mono h₃ (fun x s₄ h₄ => wpAny_bind (wpAny_mono h₄ (fun _ s₅ h₅ => wpAny_pure (wpAny_pure ⟨rfl, h₅⟩)) fun _ _ h' => h')) fun _ _ h' => h'))
theorem loop_midL {elt : Expr} (h : gens[d]? = some ⟨tg, iter, ifs, 0⟩) (hn : gens[d + 1]? = some ⟨tg1, iter1, ifs1, 0⟩) (hs : ∀ x, foldedSetIterable iter1 env x = pure x) : LoopOk (model prog w) A env (.compLoop (.ListComp elt gens scope pos) d it acc env) it tg ifs (bdM (model prog w) A env acc (.ListComp elt gens scope pos) d iter1) := fun R I turn n s hI => by
  refine codeAny_loop rfl I (fun n s hI => ?_) n hI
  show wpAny _ A ((compTurn (.ListComp elt gens scope pos) d it acc env).onRaise (fun x => do noteFrame x env; theTreesLotGoes x)) _ _ s
  refine wpAny_noted ?_
  rw [turn_midL h hn]
  refine wpAny_bind (wpAny_standAt (wpAny_bind (wpAny_mono (turn n s hI) (fun r s₁ h₁ => ?_) fun _ _ h' => h')))
  cases r with
  | none => exact wpAny_pure h₁
  | some v =>
    refine wpAny_bind (wpAny_mono h₁ (fun _ s₁' h₁' => ?_) fun _ _ h' => h')
    refine wpAny_bind (wpAny_mono h₁' (fun _ s₂ h₂ => wpAny_bind (wpAny_mono h₂ (fun ok s₃ h₃ => ?_) fun _ _ h' => h')) fun _ _ h' => h')
    cases ok with
    | false => exact wpAny_pure ⟨rfl, h₃⟩
    | true =>
      refine wpAny_bind (wpAny_mono h₃ (fun x s₄ h₄ => ?_) fun _ _ h' => h')
      refine wpAny_bind (wpAny_standAt (wpAny_bind (wpAny_of_eq (hs x) (wpAny_bind (wpAny_holding (wpAny_mono h₄ (fun it1 s₅ h₅ => ?_) fun _ _ h' => h'))))))
      refine wpAny_bind (wpAny_runOwn ?_)
      rw [Around.mark_none]
      refine codeAny_mono h₅ fun r s' hr => ?_
      cases r with
      | ok f =>
        first
          | exact wpAny_pure ⟨rfl, hr⟩
          | exact wpAny_bind (wpAny_pure (wpAny_pure ⟨rfl, hr⟩))
      | error e => exact hr.elim
theorem start_L {elt : Expr} {R : Result → Shared → Prop} {s : Shared} (hg : gens[d]? = some ⟨tg, iter, ifs, 0⟩) (h0 : codeAny (model prog w) A (.compLoop (.ListComp elt gens scope pos) d it acc env) R s)
    (h : wpAny (model prog w) A (pyIter it) (fun it' s' => codeAny (model prog w) A (.compLoop (.ListComp elt gens scope pos) d it' acc env) R s') (EEn (model prog w) A env R) s) :
    codeAny (model prog w) A (.compStart (.ListComp elt gens scope pos) d it acc env) R s := by
  refine codeAny_of_tree ?_
  show wpAny _ _ ((compStart (.ListComp elt gens scope pos) d it acc env).onRaise (fun x => do noteFrame x env; standAt theWindowsPlace)) _ _ s
  refine wpAny_notedAt ?_
  have hc : (clausesOf (.ListComp elt gens scope pos))[d]? = some ⟨tg, iter, ifs, 0⟩ := hg
  unfold compStart
  simp only [hc]
  show wpAny _ _ (ask >>= _) _ _ s
  refine wpAny_bind (wpAny_askSetting (wpAny_ite ?_))
  split
  · first
      | exact wpAny_bind (wpAny_pure (wpAny_pure (And.intro rfl h0)))
      | exact wpAny_pure (And.intro rfl h0)
  · first
      | exact wpAny_bind (wpAny_rule (wpAny_bind (wpAny_standAt (wpAny_bind (wpAny_mono h (fun it' s' h' => wpAny_pure (And.intro rfl h')) fun _ _ x => x)))))
      | (refine wpAny_bind (wpAny_rule ?_); show wpAny _ _ (standAt iter.pos >>= _) _ _ s; exact wpAny_bind (wpAny_standAt (wpAny_bind (wpAny_mono h (fun it' s' h' => wpAny_pure (And.intro rfl h')) fun _ _ x => x))))
theorem loop_lastD {kx vx : Expr} {D : Addr} (h : gens[d]? = some ⟨tg, iter, ifs, 0⟩) (hn : gens[d + 1]? = none) : LoopOk (model prog w) A env (.compLoop (.DictComp kx vx gens scope pos) d it (.ref D) env) it tg ifs (bdD (model prog w) A env D kx vx) := fun R I turn n s hI => by
  refine codeAny_loop rfl I (fun n s hI => ?_) n hI
  show wpAny _ A ((compTurn (.DictComp kx vx gens scope pos) d it (.ref D) env).onRaise (fun x => do noteFrame x env; theTreesLotGoes x)) _ _ s
  refine wpAny_noted ?_
  rw [turn_lastD h hn]
  refine wpAny_bind (wpAny_standAt (wpAny_bind (wpAny_mono (turn n s hI) (fun r s₁ h₁ => ?_) fun _ _ h' => h')))
  cases r with
  | none => exact wpAny_pure h₁
  | some v =>
    refine wpAny_bind (wpAny_mono h₁ (fun _ s₁' h₁' => ?_) fun _ _ h' => h')
    refine wpAny_bind (wpAny_mono h₁' (fun _ s₂ h₂ => wpAny_bind (wpAny_mono h₂ (fun ok s₃ h₃ => ?_) fun _ _ h' => h')) fun _ _ h' => h')
    cases ok with
    | false => exact wpAny_pure ⟨rfl, h₃⟩
    | true =>
      exact wpAny_bind (wpAny_bind (wpAny_mono h₃ (fun kv s₄ h₄ => wpAny_bind (wpAny_holding (wpAny_mono h₄ (fun vv s₅ h₅ => wpAny_bind (wpAny_standAt (wpAny_holding (wpAny_mono h₅ (fun _ s₆ h₆ => wpAny_pure ⟨rfl, h₆⟩) fun _ _ h' => h')))) fun _ _ h' => h'))) fun _ _ h' => h'))
theorem loop_midD {kx vx : Expr} {D : Addr} (h : gens[d]? = some ⟨tg, iter, ifs, 0⟩) (hn : gens[d + 1]? = some ⟨tg1, iter1, ifs1, 0⟩) (hs : ∀ x, foldedSetIterable iter1 env x = pure x) : LoopOk (model prog w) A env (.compLoop (.DictComp kx vx gens scope pos) d it (.ref D) env) it tg ifs (bdM (model prog w) A env (.ref D) (.DictComp kx vx gens scope pos) d iter1) := fun R I turn n s hI => by
  refine codeAny_loop rfl I (fun n s hI => ?_) n hI
  show wpAny _ A ((compTurn (.DictComp kx vx gens scope pos) d it (.ref D) env).onRaise (fun x => do noteFrame x env; theTreesLotGoes x)) _ _ s
  refine wpAny_noted ?_
  rw [turn_midD h hn]
  refine wpAny_bind (wpAny_standAt (wpAny_bind (wpAny_mono (turn n s hI) (fun r s₁ h₁ => ?_) fun _ _ h' => h')))
  cases r with
  | none => exact wpAny_pure h₁
  | some v =>
    refine wpAny_bind (wpAny_mono h₁ (fun _ s₁' h₁' => ?_) fun _ _ h' => h')
    refine wpAny_bind (wpAny_mono h₁' (fun _ s₂ h₂ => wpAny_bind (wpAny_mono h₂ (fun ok s₃ h₃ => ?_) fun _ _ h' => h')) fun _ _ h' => h')
    cases ok with
    | false => exact wpAny_pure ⟨rfl, h₃⟩
    | true =>
      refine wpAny_bind (wpAny_mono h₃ (fun x s₄ h₄ => ?_) fun _ _ h' => h')
      refine wpAny_bind (wpAny_standAt (wpAny_bind (wpAny_of_eq (hs x) (wpAny_bind (wpAny_holding (wpAny_mono h₄ (fun it1 s₅ h₅ => ?_) fun _ _ h' => h'))))))
      refine wpAny_bind (wpAny_runOwn ?_)
      rw [Around.mark_none]
      refine codeAny_mono h₅ fun r s' hr => ?_
      cases r with
      | ok f =>
        first
          | exact wpAny_pure ⟨rfl, hr⟩
          | exact wpAny_bind (wpAny_pure (wpAny_pure ⟨rfl, hr⟩))
      | error e => exact hr.elim
theorem start_D {kx vx : Expr} {D : Addr} {R : Result → Shared → Prop} {s : Shared} (hg : gens[d]? = some ⟨tg, iter, ifs, 0⟩) (h0 : codeAny (model prog w) A (.compLoop (.DictComp kx vx gens scope pos) d it (.ref D) env) R s)
    (h : wpAny (model prog w) A (pyIter it) (fun it' s' => codeAny (model prog w) A (.compLoop (.DictComp kx vx gens scope pos) d it' (.ref D) env) R s') (EEn (model prog w) A env R) s) :
    codeAny (model prog w) A (.compStart (.DictComp kx vx gens scope pos) d it (.ref D) env) R s := by
  refine codeAny_of_tree ?_
  show wpAny _ _ ((compStart (.DictComp kx vx gens scope pos) d it (.ref D) env).onRaise (fun x => do noteFrame x env; standAt theWindowsPlace)) _ _ s
  refine wpAny_notedAt ?_
  have hc : (clausesOf (.DictComp kx vx gens scope pos))[d]? = some ⟨tg, iter, ifs, 0⟩ := hg
  unfold compStart
  simp only [hc]
  show wpAny _ _ (ask >>= _) _ _ s
  refine wpAny_bind (wpAny_askSetting (wpAny_ite ?_))
  split
  · first
      | exact wpAny_bind (wpAny_pure (wpAny_pure (And.intro rfl h0)))
      | exact wpAny_pure (And.intro rfl h0)
  · first
      | exact wpAny_bind (wpAny_rule (wpAny_bind (wpAny_standAt (wpAny_bind (wpAny_mono h (fun it' s' h' => wpAny_pure (And.intro rfl h')) fun _ _ x => x)))))
      | (refine wpAny_bind (wpAny_rule ?_); show wpAny _ _ (standAt iter.pos >>= _) _ _ s; exact wpAny_bind (wpAny_standAt (wpAny_bind (wpAny_mono h (fun it' s' h' => wpAny_pure (And.intro rfl h')) fun _ _ x => x))))
end

/-! ### in a block -/
/-- what stands behind the tests: Nx is reached -/
def PB (X : Cx) (Bd : (Value → Shared → Prop) → (Shared → Prop) → Shared → Prop) (vs : List Nat) (t : (Hp → Prop) → L2.St → Hp → Prop) : Prop :=
  ∀ (pins : List (Addr × Obj)) (s : Shared) (σ : L2.St) (H : Hp) (Nx : Hp → Prop) (EE : Value → Shared → Prop) (G : Shared → Prop), Inv X pins σ H s → t Nx σ H →
    (∀ s' σ' H', Inv X pins σ' H' s' → σ'.length = σ.length → wipe σ' vs = wipe σ vs → Nx H' → G s') → Bd EE G s
def tLoop (J : It) (g : TG) (tt : TT) (tb : (Hp → Prop) → L2.St → Hp → Prop) (vs : List Nat) (σ : L2.St) (H : Hp) (N : Hp → Prop) : Prop :=
  ∃ W : Nat → Nat → Hp → Prop, (∃ m, W 0 m H) ∧ ∀ i m H, W i m H → (J.stop i H ∧ N H) ∨ (J.go i H ∧ ∃ Nx : Hp → Prop, (∀ H', Nx H' → ∃ m', m' < m ∧ W (i + 1) m' H') ∧
    ∀ x H', J.yld i H x H' → g x (wipe σ vs) H' fun σ2 H2 => wipe σ2 vs = wipe σ vs ∧ tt σ2 H2 fun b H3 => if b = true then tb Nx σ2 H3 else Nx H3)
theorem wipe_sub (σ : L2.St) (us vs : List Nat) (hv : ∀ v ∈ us, v ∈ vs) : wipe (wipe σ us) vs = wipe σ vs := by
  have ws : ∀ {σ : L2.St} {i : Nat} {x : Option V} (vs : List Nat), wipe (σ.set i x) vs = if i ∈ vs then wipe σ vs else (wipe σ vs).set i x := by
    intro σ i x vs
    induction vs with
    | nil => simp [wipe]
    | cons v vs ih =>
      rw [wipe, ih, wipe]
      by_cases hv : i ∈ vs
      · rw [if_pos hv, if_pos (List.mem_cons_of_mem _ hv)]
      · rw [if_neg hv]
        by_cases e : i = v
        · subst e
          rw [if_pos (List.mem_cons_self ..), List.set_set]
        · rw [if_neg (by simp [e, hv]), List.set_comm _ _ e]
  have key : ∀ (us vs : List Nat), (∀ v ∈ us, v ∈ vs) → wipe (wipe σ us) vs = wipe σ vs := by
    intro us
    induction us with
    | nil => intro vs _; rfl
    | cons u us ih =>
      intro vs h
      rw [wipe, ws, if_pos (h u (List.mem_cons_self ..))]
      exact ih vs fun v hv => h v (List.mem_cons_of_mem _ hv)
  exact key us vs hv
theorem wipe_idem (σ : L2.St) (vs : List Nat) : wipe (wipe σ vs) vs = wipe σ vs := wipe_sub σ vs vs fun _ h => h
theorem loop_core {X : Cx} {pins : List (Addr × Obj)} {σ : L2.St} {H : Hp} {s : Shared} {it : Addr} {fp : List Addr} {tn : Nat → Heap → Prop} {J : It} {tg : Expr} {ifs : List Expr} {vs : List Nat} {g : TG} {tt : TT} {tb : (Hp → Prop) → L2.St → Hp → Prop} {code : Code} {N : Hp → Prop}
    {Bd : (Value → Shared → Prop) → (Shared → Prop) → Shared → Prop} (hc : X.calm = true) (hx : X.xe = fun _ _ => False) (T : Turn X.prog X.w X.K tg J fp it tn) (hg : PG X tg g) (ht : PTs X ifs tt) (hB : PB X Bd vs tb)
    (LL : LoopOk (model X.prog X.w) X.A X.env code (.ref it) tg ifs Bd) (I : Inv X pins σ H s) (f : ∀ b ∈ fp, FpOk X pins H b) (st : tn 0 s.heap) (h : tLoop J g tt tb vs σ H N) :
    codeAny (model X.prog X.w) X.A code (fun r s' => r = .ok .next ∧ ∃ H', Inv X pins (wipe σ vs) H' s' ∧ (∀ b ∈ fp, H' b = none) ∧ N H') s := by
  obtain ⟨W, ⟨m0, w0⟩, turn⟩ := h
  have nF : ∀ {α : Type} {t : Sem α} {Q Q' : α → Shared → Prop} {EE : Value → Shared → Prop} {s : Shared}, wpAny (model X.prog X.w) X.A t Q X.xe s → (∀ a s, Q a s → Q' a s) → wpAny (model X.prog X.w) X.A t Q' EE s := fun h hQ => wpAny_mono h hQ fun _ _ z => by rw [hx] at z; exact z.elim
  have stat : ∀ {H' : Hp}, (∀ b ∈ fp, H' b = none) → ∀ b ∈ fp, FpOk X pins H' b := fun hn b hb => ⟨hn b hb, (f b hb).2⟩
  refine LL _ (fun n s' => ∃ i H', Inv X pins (wipe σ vs) H' s' ∧ tn i s'.heap ∧ (∀ b ∈ fp, H' b = none) ∧ W i n H') ?_ m0 s ⟨0, H, I.weak (wipe_length σ vs) (fun j v e => (wipe_some e).1), st, fun b hb => (f b hb).1, w0⟩
  rintro n s5 ⟨i, H5, I5, st5, n5, w5⟩
  unfold turnWp
  rcases turn i n H5 w5 with ⟨stop, qq⟩ | ⟨go, Nx, hNx, step⟩
  · have td := T.done X rfl rfl rfl hc i pins s5 _ H5 X.xe I5 (stat n5) st5 stop
    refine nF td fun r s6 ⟨hr, I6⟩ => ?_
    subst hr
    exact ⟨rfl, H5, I6, n5, qq⟩
  · have ti := T.item X rfl rfl rfl hc i pins s5 _ H5 X.xe I5 (stat n5) st5 go
    refine nF ti fun r s6 ⟨u, hr, h6⟩ => ?_
    subst hr
    refine nF h6 fun _ s7 ⟨x, H7, I7, r7, y7, st7, n7⟩ => ?_
    have I7' := I7.pinned (stat n7) (T.obj _ _ st7)
    refine nF (hg.run _ s7 _ H7 x u _ I7' r7 (step x H7 y7)) fun _ s8 ⟨σ8, H8, I8, hw8, q8⟩ => ?_
    refine nF (ht.run _ s8 σ8 H8 _ I8 q8) fun b s9 ⟨H9, I9, q9⟩ => ?_
    have fin : ∀ {s' : Shared} {H' : Hp} {σ' : L2.St}, Inv X (pins ++ pinsAt fp s7.heap) σ' H' s' → σ'.length = σ8.length → wipe σ' vs = wipe σ8 vs → Nx H' → ∃ m, m < n ∧ ∃ i H', Inv X pins (wipe σ vs) H' s' ∧ tn i s'.heap ∧ (∀ b ∈ fp, H' b = none) ∧ W i m H' := fun {s' H' σ'} I' hl hw nx => by
      obtain ⟨m', hm, w'⟩ := hNx H' nx
      have pin' : ∀ b ∈ fp, ∀ o, s7.heap.get? b = some o → s'.heap.get? b = some o ∧ H' b = none := fun b hb o e =>
        let z := I'.pin (b, o) (List.mem_append_right _ (List.mem_append_right _ (mem_pinsAt hb e)))
        ⟨z.1, z.2.1⟩
      have e8 : wipe σ' vs = wipe σ vs := by rw [hw, hw8] <;> first | rfl | exact wipe_idem _ _
      have hl' : (wipe σ vs).length = σ'.length := by rw [← e8, wipe_length]
      refine ⟨m', hm, i + 1, H', I'.unpinned.weak hl' (fun j v e => ?_), T.keep _ _ _ st7 fun b hb o e => (pin' b hb o e).1, fun b hb => ?_, w'⟩
      · rw [← e8] at e
        exact (wipe_some e).1
      · obtain ⟨o, e, _⟩ := T.obj _ _ st7 b hb
        exact (pin' b hb o e).2
    cases b with
    | false =>
      simp only [Bool.false_eq_true, if_false] at q9 ⊢
      exact fin I9 rfl rfl q9
    | true =>
      simp only [if_true] at q9 ⊢
      exact hB _ s9 σ8 H9 Nx _ _ I9 q9 fun s' σ' H' I' hl hw nx => fin I' hl hw nx

/-! ### what a turn does -/
section
variable {X : Cx}
theorem pb_L {elt : Expr} {p : Addr} {te : TE} {vs : List Nat} (hx : X.xe = fun _ _ => False) (he : PE X elt te) : PB X (bdL (model X.prog X.w) X.A X.env (.ref p) elt) vs (fun Nx σ H => te σ H fun y H4 => ∃ acc, H4 p = some (.lst acc) ∧ acc.length < sizeLine ∧ Nx (upd H4 p (.lst (acc ++ [y])))) := by
  intro pins s σ H Nx EE G I h fin
  have nF : ∀ {α : Type} {t : Sem α} {Q Q' : α → Shared → Prop} {EE : Value → Shared → Prop} {s : Shared}, wpAny (model X.prog X.w) X.A t Q X.xe s → (∀ a s, Q a s → Q' a s) → wpAny (model X.prog X.w) X.A t Q' EE s := fun h hQ => wpAny_mono h hQ fun _ _ z => by rw [hx] at z; exact z.elim
  refine nF (he.run _ s σ H _ I h) fun z s10 ⟨yv, H10, I10, r10, acc, hD10, hz10, nx⟩ => ?_
  exact app_ok I10 hD10 hz10 r10 fun s11 I11 => fin s11 σ _ I11 rfl rfl nx
theorem d_set {pins : List (Addr × Obj)} {σ : L2.St} {H : Hp} {s : Shared} {E : Value → Shared → Prop} {p : Addr} {ys : List Ent} {k : NestedKey} {y z : V} {u r : Value} {Q : Unit → Shared → Prop} (hu : X.A.units + 64 < cLine) (I : Inv X pins σ H s) (hp : H p = some (.ext (DAt X.w p ys))) (hD : DH X.K X.w H p ys)
    (hk : KeyV X.K H k y) (hd : k.depth ≤ 8) (ry : RelV y u) (rz : RelV z r) (h : ∀ s', Inv X pins σ (upd H p (.ext (DAt X.w p (putE ys k u r)))) s' → Q () s') : wpAny (model X.prog X.w) X.A (dictSet p u r) Q E s := by
  obtain ⟨h1, h2⟩ := hD.dat I
  exact set_key (by omega) (DH.key I hk hd ry) h1 h2 hD.few fun h' d sb => h _ (DH.inv hp (t' := s.toks + k.draws) I d sb)
theorem pb_D {kx vx : Expr} {p : Addr} {tk tv : TE} {vs : List Nat} (hu : X.A.units + 64 < cLine) (hx : X.xe = fun _ _ => False) (hk : PE X kx tk) (he : PE X vx tv) : PB X (bdD (model X.prog X.w) X.A X.env p kx vx) vs (fun Nx σ H => tk σ H fun y H4 => tv σ H4 fun z H5 =>
    ∃ ys k, H5 p = some (.ext (DAt X.w p ys)) ∧ DH X.K X.w H5 p ys ∧ KeyV X.K H5 k y ∧ k.depth ≤ 8 ∧ ∀ ku vu, RelV y ku → RelV z vu → Nx (upd H5 p (.ext (DAt X.w p (putE ys k ku vu))))) := by
  intro pins s σ H Nx EE G I h fin
  have nF : ∀ {α : Type} {t : Sem α} {Q Q' : α → Shared → Prop} {EE : Value → Shared → Prop} {s : Shared}, wpAny (model X.prog X.w) X.A t Q X.xe s → (∀ a s, Q a s → Q' a s) → wpAny (model X.prog X.w) X.A t Q' EE s := fun h hQ => wpAny_mono h hQ fun _ _ z => by rw [hx] at z; exact z.elim
  refine nF (hk.run _ s σ H _ I h) fun z s10 ⟨yk, H10, I10, r10, q10⟩ => ?_
  refine nF (he.run _ s10 σ H10 _ I10 q10) fun z2 s11 ⟨yv, H11, I11, r11, ys, k, h1, h2, h3, h4, nx⟩ => ?_
  exact d_set hu I11 h1 h2 h3 h4 r10 r11 fun s12 I12 => fin s12 σ _ I12 rfl rfl (nx _ _ r10 r11)
/-- a further clause -/
theorem pb_M {e : Expr} {d : Nat} {acc : Value} {tg1 iter1 : Expr} {ifs1 : List Expr} {vs vs1 : List Nat} {wi1 : TI} {g1 : TG} {tt1 : TT} {tb1 : (Hp → Prop) → L2.St → Hp → Prop} {Bd1 : (Value → Shared → Prop) → (Shared → Prop) → Shared → Prop} (hc : X.calm = true) (hx : X.xe = fun _ _ => False)
    (hv : ∀ i ∈ vs1, i ∈ vs) (hi1 : PI X tg1 iter1 wi1) (hg1 : PG X tg1 g1) (ht1 : PTs X ifs1 tt1) (hB1 : PB X Bd1 vs1 tb1)
    (LL : ∀ it, LoopOk (model X.prog X.w) X.A X.env (.compLoop e (d + 1) it acc X.env) it tg1 ifs1 Bd1)
    (ST : ∀ (it : Value) (R : Result → Shared → Prop) (s : Shared), codeAny (model X.prog X.w) X.A (.compLoop e (d + 1) it acc X.env) R s →
      wpAny (model X.prog X.w) X.A (pyIter it) (fun it' s' => codeAny (model X.prog X.w) X.A (.compLoop e (d + 1) it' acc X.env) R s') (EEn (model X.prog X.w) X.A X.env R) s → codeAny (model X.prog X.w) X.A (.compStart e (d + 1) it acc X.env) R s) :
    PB X (bdM (model X.prog X.w) X.A X.env acc e d iter1) vs (fun Nx σ H => wi1 σ H fun J H1 => tLoop J g1 tt1 tb1 vs1 σ H1 Nx) := by
  intro pins s σ H Nx EE G I h fin
  have nF : ∀ {α : Type} {t : Sem α} {Q Q' : α → Shared → Prop} {EE : Value → Shared → Prop} {s : Shared}, wpAny (model X.prog X.w) X.A t Q X.xe s → (∀ a s, Q a s → Q' a s) → wpAny (model X.prog X.w) X.A t Q' EE s := fun h hQ => wpAny_mono h hQ fun _ _ z => by rw [hx] at z; exact z.elim
  refine nF (hi1.run pins s σ H _ I h) fun v s1 h1 => nF h1 fun itv s2 h2 => ?_
  obtain ⟨it, fp, tn, J, H2, e2, I2, T, st2, f2, q⟩ := h2
  subst e2
  have loop := loop_core hc hx T hg1 ht1 hB1 (LL (.ref it)) I2 f2 st2 q
  have loop' : codeAny (model X.prog X.w) X.A (.compLoop e (d + 1) (.ref it) acc X.env) (fun r s' => match r with
    | .ok _ => G s'
    | .error _ => False) s2 := codeAny_mono loop fun r s' hr => by
    obtain ⟨rfl, H', I', _, n'⟩ := hr
    refine fin s' (wipe σ vs1) H' I' (wipe_length σ vs1) ?_ n'
    exact wipe_sub σ vs1 vs hv
  exact ST _ _ _ loop' (T.self X.A 0 _ _ _ st2 loop')
end

/-! ### the whole -/
section
variable {X : Cx}
def tComp (u0 : Addr → HO) (wi : TI) (g : TG) (tt : TT) (tb : Addr → (Hp → Prop) → L2.St → Hp → Prop) (vs : List Nat) : TE := fun σ H Q => wi σ H fun J H1 => ∀ p, H1 p = none → (p == sysModules) = false → tLoop J g tt (tb p) vs (wipe σ vs) (upd H1 p (u0 p)) (fun H => Q (.ref p) H)
theorem comp_core {pins : List (Addr × Obj)} {s : Shared} {σ : L2.St} {H : Hp} {Q : VK} {e tg iter : Expr} {ifs : List Expr} {rest : List Comprehension} {scope : Scope} {own : List (Str × Nat)} {pos' : Pos} {newAcc : Sem Value} {ob : Obj} {u0 : Addr → HO} {wi : TI} {g : TG} {tt : TT} {tb : Addr → (Hp → Prop) → L2.St → Hp → Prop} {use : Option (Value → Sem Unit)} {Qf : Value → Shared → Prop}
    {Bd : Addr → PySem.Env → (Value → Shared → Prop) → (Shared → Prop) → Shared → Prop}
    (hcl : clausesOf e = ⟨tg, iter, ifs, 0⟩ :: rest) (hc : X.calm = true) (hN : X.N.Nodup) (I : Inv X pins σ H s) (hi : PI X tg iter wi) (ok : BlkOk X.N X.env.scope scope own)
    (hnew : ∀ (s : Shared) (Q : Value → Shared → Prop) (E : Value → Shared → Prop), Q (.ref s.heap.objs.size) { s with heap := s.heap.push ob } → wpAny (model X.prog X.w) X.A newAcc Q E s)
    (hob : ∀ (H : Hp) (h : Heap), sysModules < h.objs.size → ObjOk X.prog X.w (upd H h.objs.size (u0 h.objs.size)) (h.push ob) h.objs.size (u0 h.objs.size))
    (hg : ∀ (s : Shared) (H : Hp) (C : Addr) (cl : List (Str × Addr)) (fp : List Addr), PG (X.blk s H scope (compEnvC scope cl C X.env) fp) tg g) (ht : ∀ (s : Shared) (H : Hp) (C : Addr) (cl : List (Str × Addr)) (fp : List Addr), PTs (X.blk s H scope (compEnvC scope cl C X.env) fp) ifs tt)
    (hB : ∀ (p : Addr) (s : Shared) (H : Hp) (C : Addr) (cl : List (Str × Addr)) (fp : List Addr), PB (X.blk s H scope (compEnvC scope cl C X.env) fp) (Bd p (compEnvC scope cl C X.env)) (own.map (·.2)) (tb p))
    (LL : ∀ (p : Addr) (env : PySem.Env) (it : Value), LoopOk (model X.prog X.w) X.A env (.compLoop e 0 it (.ref p) env) it tg ifs (Bd p env))
    (ST : ∀ (p : Addr) (env : PySem.Env) (it : Value) (R : Result → Shared → Prop) (s : Shared), codeAny (model X.prog X.w) X.A (.compLoop e 0 it (.ref p) env) R s →
      wpAny (model X.prog X.w) X.A (pyIter it) (fun it' s' => codeAny (model X.prog X.w) X.A (.compLoop e 0 it' (.ref p) env) R s') (EEn (model X.prog X.w) X.A env R) s → codeAny (model X.prog X.w) X.A (.compStart e 0 it (.ref p) env) R s)
    (hs : ∀ x, foldedSetIterable iter X.env x = pure x) (h : tComp u0 wi g tt tb (own.map (·.2)) σ H Q)
    (hRR : ∀ D C s' m H', Inv X pins σ H' s' → Q (.ref D) H' → s'.heap.Ns C m → FpOk X pins H' C → compPost (model X.prog X.w) X.A X.xe use Qf (.ref D) C (.ok .next) s') :
    wpAny (model X.prog X.w) X.A (comprehension e scope X.env pos' newAcc false (eval iter X.env) use) Qf X.xe s := by
  have hfree : ∀ y ∈ scope.names, y.2 = .free → ∃ c, X.env.cells.lookup y.1 = some c := fun y hy e => by
    rcases ok.free y hy e with k | k
    · exact I.ok.has _ (.inl k)
    · exact I.ok.has _ (.inr k)
  refine wpAny_comprehension_free (use := use) hcl hs (closure_ok hfree) ok.kind (fun y hy e => by rw [ok.uniq y hy, e])
    (thn (hi.run pins s σ H _ I h) fun xv s1 hx => thn hx fun itv s2 h2 => ?_)
  obtain ⟨it, fp, tn, J, H2, e1, I2, T, st2, f2, q⟩ := h2
  subst e1
  refine hnew _ _ _ (newEnv_comp ?_)
  generalize hD : s2.heap.objs.size = D
  have hDn : H2 D = none := I2.hok.fresh (Nat.le_of_eq hD)
  have hDs : (D == sysModules) = false := beq_eq_false_iff_ne.mpr (by rw [← hD]; exact Ne.symm (Nat.ne_of_lt I2.big))
  have q := q D hDn hDs
  generalize hs3 : ({ s2 with heap := s2.heap.push ob } : Shared) = s3
  have I3 : Inv X pins σ (upd H2 D (u0 D)) s3 := by
    rw [← hs3]
    refine I2.laid (t' := s2.toks) (fun b o e => Heap.get?_push_of_some _ e) (Nat.le_of_eq hD) ?_
    rw [← hD]
    exact hob H2 s2.heap I2.big
  have h3 : s3.heap = s2.heap.push ob := by rw [← hs3]
  have sz : ∀ b ∈ fp, b < s2.heap.objs.size := fun b hb => by
    obtain ⟨o, e, _⟩ := T.obj _ _ st2 b hb
    exact Heap.lt_size e
  have f3 : ∀ b ∈ fp, FpOk X pins (upd H2 D (u0 D)) b ∧ b < s3.heap.objs.size := fun b hb => by
    have hlt := sz b hb
    refine ⟨⟨?_, (f2 b hb).2⟩, by rw [h3, Heap.size_push]; exact Nat.lt_succ_of_lt hlt⟩
    rw [upd_ne (by rw [← hD]; exact Nat.ne_of_lt hlt)]
    exact (f2 b hb).1
  have st3 : tn 0 s3.heap := T.keep _ _ _ st2 fun b _ o e => by rw [h3]; exact Heap.get?_push_of_some _ e
  have I4 := block_start I3 ok hN f3
  have pg := hg s3 (upd H2 D (u0 D)) s3.heap.objs.size (cellsFrom (s3.heap.objs.size + 1) scope.names (cloFrom X.env.cells scope.names [])) fp
  have pt := ht s3 (upd H2 D (u0 D)) s3.heap.objs.size (cellsFrom (s3.heap.objs.size + 1) scope.names (cloFrom X.env.cells scope.names [])) fp
  have pb := hB D s3 (upd H2 D (u0 D)) s3.heap.objs.size (cellsFrom (s3.heap.objs.size + 1) scope.names (cloFrom X.env.cells scope.names [])) fp
  show codeAny _ _ (.compStart e 0 (.ref it) (.ref D) (compEnvC scope (cellsFrom (s3.heap.objs.size + 1) scope.names (cloFrom X.env.cells scope.names [])) s3.heap.objs.size X.env)) (compPost (model X.prog X.w) X.A X.xe use Qf (.ref D) s3.heap.objs.size) { s3 with heap := pushCells (s3.heap.push { cls := .type "dict", data := .dict #[] }) scope.names }
  have nfp : ∀ b ∈ fp, (upd H2 D (u0 D)) b = none := fun b hb => (f3 b hb).1.1
  generalize hce : compEnvC scope (cellsFrom (s3.heap.objs.size + 1) scope.names (cloFrom X.env.cells scope.names [])) s3.heap.objs.size X.env = ce at I4 pg pt pb ⊢
  have cL : ce.locals = s3.heap.objs.size := by subst hce; rfl
  generalize hH3 : upd H2 D (u0 D) = H3 at I3 I4 pg pt pb q nfp f3
  generalize hs4 : ({ s3 with heap := pushCells (s3.heap.push { cls := .type "dict", data := .dict #[] }) scope.names } : Shared) = s4 at I4 ⊢
  have st4 : tn 0 s4.heap := T.keep _ _ _ st3 fun b _ o e => by rw [← hs4]; exact pushCells_keeps _ _ _ _ (Heap.get?_push_of_some _ e)
  have stat : ∀ b ∈ fp, FpOk (X.blk s3 H3 scope ce fp) [] H3 b := fun b hb =>
    ⟨nfp b hb, (I4.ok.exf b hb).1, I4.ok.exfs b hb, .inl hb, fun x c e => (I4.ok.exf b hb).2 x c e, fun p hp => absurd (show p ∈ ([] : List (Addr × Obj)) ++ [] from hp) (by simp)⟩
  have loop := loop_core (X := X.blk s3 H3 scope ce fp) hc rfl T pg pt pb (LL D ce (.ref it)) I4 stat st4 q
  have loop' : codeAny (model X.prog X.w) X.A (.compLoop e 0 (.ref it) (.ref D) ce) (compPost (model X.prog X.w) X.A X.xe use Qf (.ref D) s3.heap.objs.size) s4 := codeAny_mono loop fun r s6 hr => by
    obtain ⟨rfl, H5, I6, n5, qq⟩ := hr
    have I7 : Inv X pins σ H5 s6 := I3.call' (ch := fp) I6.os I6.base I6.hok I6.bare fun b hb => ⟨(f3 b hb).1.2.2.2.1, (f3 b hb).1.2.1, (f3 b hb).1.2.2.2.2.1, (f3 b hb).1.2.2.2.2.2⟩
    have nC : H5 s3.heap.objs.size = none := by
      have z : H5 ce.locals = none := I6.free
      rw [cL] at z
      exact z
    obtain ⟨m, hn, _⟩ := I6.loc
    have hn : s6.heap.Ns ce.locals m := hn
    rw [cL] at hn
    exact hRR D s3.heap.objs.size s6 m H5 I7 qq hn (I3.fpOk (Nat.le_refl _) nC)
  exact ST D ce (.ref it) _ _ loop' (T.self X.A 0 _ _ _ st4 loop')
theorem newL_ok {s : Shared} {Q : Value → Shared → Prop} {E : Value → Shared → Prop} (h : Q (.ref s.heap.objs.size) { s with heap := s.heap.push { cls := .type "list", data := .seq ([] : List Value).toArray } }) : wpAny (model X.prog X.w) X.A (newList []) Q E s := wpAny_newObj_type h (by show 0 ≤ sizeLine; decide)
theorem newD_ok {s : Shared} {Q : Value → Shared → Prop} {E : Value → Shared → Prop} (h : Q (.ref s.heap.objs.size) { s with heap := s.heap.push { cls := .type "dict", data := .dict #[] } }) : wpAny (model X.prog X.w) X.A newDict Q E s := wpAny_newObj_type h
theorem obL_ok (H : Hp) (h : Heap) (_ : sysModules < h.objs.size) : ObjOk X.prog X.w (upd H h.objs.size (.lst [])) (h.push { cls := .type "list", data := .seq ([] : List Value).toArray }) h.objs.size (.lst []) :=
  ⟨Nat.zero_le _, [], 0, .nil, Heap.get?_push_size _ rfl⟩
theorem obD_ok (H : Hp) (h : Heap) (_ : sysModules < h.objs.size) : ObjOk X.prog X.w (upd H h.objs.size (.ext (DAt X.w h.objs.size []))) (h.push { cls := .type "dict", data := .dict #[] }) h.objs.size (.ext (DAt X.w h.objs.size [])) :=
  DAt.ext ⟨_, #[], 0, Heap.get?_push_size _ rfl, ⟨rfl, rfl, rfl⟩, rfl, rfl⟩
end
end Gh
end
section
set_option Elab.async false
set_option linter.all false
set_option maxRecDepth 100000
/-! Comprehensions over data. -/
namespace Gh
open PySem PySem.Spec PyProof.Rows L2

def wipeD (ρ : Env) : List Nat → Env
  | [] => ρ
  | v :: vs => (wipeD ρ vs).set v none
theorem RE.wipe {K : PySem.W.Frag} {w : World} {θ : Th} {H : Hp} {ρ : Env} {σ : L2.St} (h : RE K w θ H ρ σ) : ∀ vs : List Nat, RE K w θ H (wipeD ρ vs) (wipe σ vs)
  | [] => h
  | v :: vs => (RE.wipe h vs).drop v
theorem wipe_set {σ : L2.St} {i : Nat} {x : Option V} : ∀ vs : List Nat, wipe (σ.set i x) vs = if i ∈ vs then wipe σ vs else (wipe σ vs).set i x
  | [] => by simp [wipe]
  | v :: vs => by
    rw [wipe, wipe_set vs, wipe]
    by_cases hv : i ∈ vs
    · rw [if_pos hv, if_pos (List.mem_cons_of_mem _ hv)]
    · rw [if_neg hv]
      by_cases e : i = v
      · subst e
        rw [if_pos (List.mem_cons_self ..), List.set_set]
      · rw [if_neg (by simp [e, hv]), List.set_comm _ _ e]

section
variable (K : PySem.W.Frag) (w : World) (mg : Str → Option Value) (T : List (Addr × Str))
/-- a target whose names are among vs -/
def simW (vs : List Nat) (g : MG) : TG := fun v σ H Q =>
  ∃ θ ρ ih d ρ' ih', RH K w mg T θ H ih ∧ RE K w θ H ρ σ ∧ RD K w θ H d v ∧ g d ρ ih = some (ρ', ih') ∧ ∀ θ' H' σ', Ev θ H θ' H' → RH K w mg T θ' H' ih' → RE K w θ' H' ρ' σ' → wipe σ' vs = wipe σ vs → Q σ' H'
def simWs (vs : List Nat) (g : MGs) : TGs := fun xs σ H Q =>
  ∃ θ ρ ih ds ρ' ih', RH K w mg T θ H ih ∧ RE K w θ H ρ σ ∧ RDs K w θ H ds xs ∧ g ds ρ ih = some (ρ', ih') ∧ ∀ θ' H' σ', Ev θ H θ' H' → RH K w mg T θ' H' ih' → RE K w θ' H' ρ' σ' → wipe σ' vs = wipe σ vs → Q σ' H'
end
abbrev WG (T : List (Addr × Str)) (X : Cx) (vs : List Nat) (e : Expr) (g : MG) : Prop := PG X e (simW X.K X.w X.mg T vs g)
abbrev WGs (T : List (Addr × Str)) (X : Cx) (vs : List Nat) (es : List Expr) (g : MGs) : Prop := PGs X es (simWs X.K X.w X.mg T vs g)
section
variable {T : List (Addr × Str)} {X : Cx} {e : Expr} {es : List Expr} {pos : Pos} {vs : List Nat}
theorem wg_name {i : Nat} {x : Str} (hN : X.N.Nodup) (hi : X.N[i]? = some x) (hx : Loc X.env.scope x) (hv : i ∈ vs) (hf : X.fn x = true ∨ X.env.scope.names.lookup x = some .local := by first | exact .inl rfl | exact .inr rfl | assumption) : WG T X vs (.Name x pos) (gNm i) := PG.le (pg_name hN hi hx hf) fun v σ H Q q => by
  obtain ⟨θ, ρ, ih, d, ρ', ih', h1, h2, h3, h4, h5⟩ := q
  cases h4
  exact h5 θ H _ (.refl _ _) h1 (h2.set h3 i) (by rw [wipe_set, if_pos hv])
theorem wgs_nil : WGs T X vs [] gsNil := PGs.le pgs_nil fun v σ H Q q => by
  obtain ⟨θ, ρ, ih, d, ρ', ih', h1, h2, h3, h4, h5⟩ := q
  unfold gsNil at h4
  split at h4
  · cases h4
    cases h3
    exact ⟨rfl, h5 θ H _ (.refl _ _) h1 h2 rfl⟩
  · cases h4
theorem wgs_cons {g : MG} {gs : MGs} (h1 : WG T X vs e g) (h2 : WGs T X vs es gs) (hs : (assignEach (e :: es) X.env).map (·.2) = assign e X.env :: (assignEach es X.env).map (·.2) := by rfl) : WGs T X vs (e :: es) (gsCons g gs) := PGs.le (pgs_cons h1 h2 hs) fun v σ H Q q => by
  obtain ⟨θ, ρ, ih, d, ρ', ih', h1, h2, h3, h4, h5⟩ := q
  unfold gsCons at h4
  split at h4
  · rename_i d ds
    cases h3 with
    | cons r rr =>
      cases e1 : g d ρ ih with
      | none => rw [e1] at h4; cases h4
      | some p =>
        rw [e1] at h4
        simp only [Option.bind_some] at h4
        refine ⟨_, _, rfl, θ, ρ, ih, d, p.1, p.2, h1, h2, r, e1, fun θ1 H1 σ1 ev q1 r1 w1 => ?_⟩
        exact ⟨θ1, p.1, p.2, ds, ρ', ih', q1, r1, rr.mono ev, h4, fun θ2 H2 σ2 ev2 q2 r2 w2 => h5 θ2 H2 σ2 (ev.trans ev2) q2 r2 (w2.trans w1)⟩
  · cases h4
theorem wg_tup {gs : MGs} {k n : Nat} (hc : X.calm = true) (h : WGs T X vs es gs) (hn : (assignEach es X.env).length = n := by rfl) (hst : (assignEach es X.env).findIdx? (·.1) = none := by rfl) : WG T X vs (.Tuple es k pos) (gTp n gs) := PG.le (pg_tup hc h hn hst) fun v σ H Q q => by
  obtain ⟨θ, ρ, ih, d, ρ', ih', h1, h2, h3, h4, h5⟩ := q
  unfold gTp at h4
  split at h4
  · rename_i ds
    split at h4
    · rename_i hl
      cases h3 with
      | tup r rr => exact ⟨_, _, rfl, r, by rw [rr.length]; exact hl, θ, ρ, ih, ds, ρ', ih', h1, h2, rr, h4, h5⟩
    · cases h4
  · cases h4
/-! tests -/
def tTrue : Env → M Bool := fun _ ih => some (true, ih)
abbrev STs (T : List (Addr × Str)) (X : Cx) (ifs : List Expr) (m : Env → M Bool) : Prop := PTs X ifs (simT X.K X.w X.mg T m)
theorem _root_.L2.PTs.le {ifs : List Expr} {t u : TT} (h : PTs X ifs t) (l : ∀ σ H Q, u σ H Q → t σ H Q) : PTs X ifs u := ⟨fun pins s σ H Q I q => h.run pins s σ H Q I (l σ H Q q)⟩
theorem sts_nil : STs T X [] tTrue := PTs.le pts_nil fun σ H Q q => by
  obtain ⟨θ, ρ, ih, d, ih', h1, h2, h3, h4⟩ := q
  cases h3
  exact h4 θ H _ (.refl _ _) h1 rfl
theorem sts_one {c : Env → M Bool} (h : ST T X e c) : STs T X [e] c := pts_one h
end

/-! ### the runs -/
def loopC {α : Type} (gd : IH → Bool) (g : MG) (t : Env → M Bool) (k : Env → IH → α → Option (α × IH)) (ρ : Env) : List D → IH → α → Option (α × IH)
  | [], ih, a => if gd ih = true then some (a, ih) else none
  | d :: ds, ih, a => if gd ih = true then (g d ρ ih).bind fun q => (t q.1 q.2).bind fun b =>
      if b.1 = true then (k q.1 b.2 a).bind fun r => loopC gd g t k ρ ds r.2 r.1 else loopC gd g t k ρ ds b.2 a
    else none
def midC {α : Type} (mi : Env → M Src) (vs : List Nat) (g : MG) (t : Env → M Bool) (k : Env → IH → α → Option (α × IH)) : Env → IH → α → Option (α × IH) :=
  fun ρ ih a => (mi ρ ih).bind fun s => loopC s.1.gd g t k (wipeD ρ vs) s.1.items s.2 a
def emL (e : Env → M D) : Env → IH → List D → Option (List D × IH) := fun ρ ih a => (e ρ ih).bind fun y => if a.length < sizeLine then some (a ++ [y.1], y.2) else none
def emD (ek ev : Env → M D) : Env → IH → List (D × D) → Option (List (D × D) × IH) := fun ρ ih a => (ek ρ ih).bind fun x => (ev ρ x.2).bind fun y => (hkey x.1).bind fun k => if a.length < sizeLine then some (dput a x.1 k y.1, y.2) else none
def xCompL (mi : Env → M Src) (vs : List Nat) (g : MG) (t : Env → M Bool) (k : Env → IH → List D → Option (List D × IH)) : Env → M D := fun ρ ih => (midC mi vs g t k ρ ih []).bind fun r => some (.lst r.1, r.2)
def xCompD (mi : Env → M Src) (vs : List Nat) (g : MG) (t : Env → M Bool) (k : Env → IH → List (D × D) → Option (List (D × D) × IH)) : Env → M D := fun ρ ih => (midC mi vs g t k ρ ih []).bind fun r => some (.dct (r.1.map (·.1)) (r.1.map (·.2)), r.2)

/-! ### the accumulator -/
structure EvP (p : Addr) (θ : Th) (H : Hp) (θ' : Th) (H' : Hp) : Prop where
  b : θ'.b = θ.b
  ev : ∀ θ0 H0, H0 p = none → Ev θ0 H0 ⟨θ.h, θ0.b⟩ H → Ev θ0 H0 ⟨θ'.h, θ0.b⟩ H'
  lat : Lat θ H θ' H'
theorem EvP.refl (p : Addr) (θ : Th) (H : Hp) : EvP p θ H θ H := ⟨rfl, fun _ _ _ h => h, .refl _ _⟩
theorem EvP.trans {p : Addr} {θ θ1 θ2 : Th} {H H1 H2 : Hp} (a : EvP p θ H θ1 H1) (b : EvP p θ1 H1 θ2 H2) : EvP p θ H θ2 H2 := ⟨b.b.trans a.b, fun θ0 H0 h e => b.ev θ0 H0 h (a.ev θ0 H0 h e), a.lat.trans b.lat⟩
theorem EvP.of {p : Addr} {θ θ' : Th} {H H' : Hp} (e : Ev θ H θ' H') : EvP p θ H θ' H' := by
  obtain ⟨h, b⟩ := θ
  obtain ⟨l, rfl, hl⟩ := id e.pre
  exact ⟨rfl, fun θ0 H0 _ z => z.trans (Ev.unb e), .ev e⟩
structure AccR (K : PySem.W.Frag) (w : World) {α : Type} (AR : Addr → Th → Hp → α → Prop) : Prop where
  stay : ∀ (p : Addr) (θ θ' : Th) (H H' : Hp) (a : α), p ∈ θ.b → p ∉ θ.h → Ev θ H θ' H' → AR p θ H a → AR p θ' H' a
def arL (K : PySem.W.Frag) (w : World) (p : Addr) (θ : Th) (H : Hp) (a : List D) : Prop := ∃ us, H p = some (.lst us) ∧ RDs K w θ H a us
def arD (K : PySem.W.Frag) (w : World) (p : Addr) (θ : Th) (H : Hp) (a : List (D × D)) : Prop := ∃ ys, H p = some (.ext (DAt w p ys)) ∧ (p == sysModules) = false ∧ ys.length ≤ sizeLine ∧ (ys.map (·.1)).Nodup ∧ REs K w θ H (a.map (·.1)) (a.map (·.2)) ys
section
variable {K : PySem.W.Frag} {w : World} {mg : Str → Option Value} {T : List (Addr × Str)}
theorem arL_ok : AccR K w (arL K w) := ⟨fun p θ θ' H H' a hb hp e ⟨us, h1, h2⟩ => ⟨us, e.fr p _ h1 (.inl ⟨hp, rfl⟩), h2.mono e⟩⟩
theorem arD_ok : AccR K w (arD K w) := ⟨fun p θ θ' H H' a hb hp e ⟨ys, h1, h2, h3, h4, h5⟩ => ⟨ys, e.fr p _ h1 (.inl ⟨hp, rfl⟩), h2, h3, h4, h5.mono e⟩⟩
def simB (K : PySem.W.Frag) (w : World) (mg : Str → Option Value) (T : List (Addr × Str)) {α : Type} (AR : Addr → Th → Hp → α → Prop) (k : Env → IH → α → Option (α × IH)) (p : Addr) (Nx : Hp → Prop) (σ : L2.St) (H : Hp) : Prop :=
  ∃ θ ρ ih a a' ih', p ∈ θ.b ∧ RH K w mg T θ H ih ∧ RE K w θ H ρ σ ∧ AR p θ H a ∧ k ρ ih a = some (a', ih') ∧ ∀ θ' H', EvP p θ H θ' H' → RH K w mg T θ' H' ih' → AR p θ' H' a' → Nx H'
theorem emL_sim {e : Env → M D} (p : Addr) (Nx : Hp → Prop) (σ : L2.St) (H : Hp) (h : simB K w mg T (arL K w) (emL e) p Nx σ H) : simE K w mg T e σ H fun y H4 => ∃ acc, H4 p = some (.lst acc) ∧ acc.length < sizeLine ∧ Nx (upd H4 p (.lst (acc ++ [y]))) := by
  obtain ⟨θ, ρ, ih, a, a', ih', hb, h1, h2, ⟨us, h3, h4⟩, h5, h6⟩ := h
  unfold emL at h5
  cases e1 : e ρ ih with
  | none => rw [e1] at h5; cases h5
  | some y =>
    rw [e1] at h5
    simp only [Option.bind_some] at h5
    split at h5
    · rename_i hz
      cases h5
      have hpf := (h1.bon p hb).1
      refine ⟨θ, ρ, ih, _, _, h1, h2, e1, fun θ1 H1 v ev q1 r1 => ?_⟩
      have hp1 := ev.fr p _ h3 (.inl ⟨hpf, rfl⟩)
      have hb1 : p ∈ θ1.b := by
        obtain ⟨l, rfl, _⟩ := id ev.pre
        exact hb
      obtain ⟨c8, q8⟩ := Acc.put (u' := .lst (us ++ [v])) q1 hb1 hp1 rfl rfl
      refine ⟨us, hp1, by rw [h4.length]; exact hz, h6 θ1 _ ((EvP.of ev).trans ⟨rfl, fun θ0 H0 z q => q.skip z, .acc c8⟩) q8 ⟨_, upd_same, ?_⟩⟩
      exact RDs.acc c8 ((h4.mono ev).append (.cons r1 .nil))
    · cases h5
theorem emD_sim {ek ev : Env → M D} (p : Addr) (Nx : Hp → Prop) (σ : L2.St) (H : Hp) (h : simB K w mg T (arD K w) (emD ek ev) p Nx σ H) : simE K w mg T ek σ H fun y H4 => simE K w mg T ev σ H4 fun z H5 =>
    ∃ ys k, H5 p = some (.ext (DAt w p ys)) ∧ DH K w H5 p ys ∧ KeyV K H5 k y ∧ k.depth ≤ 8 ∧ ∀ ku vu, RelV y ku → RelV z vu → Nx (upd H5 p (.ext (DAt w p (putE ys k ku vu)))) := by
  obtain ⟨θ, ρ, ih, a, a', ih', hb, h1, h2, ⟨ys, h3, hs, hz, hn, h4⟩, h5, h6⟩ := h
  unfold emD at h5
  cases e1 : ek ρ ih with
  | none => rw [e1] at h5; cases h5
  | some x =>
    rw [e1] at h5
    simp only [Option.bind_some] at h5
    cases e2 : ev ρ x.2 with
    | none => rw [e2] at h5; cases h5
    | some y =>
      rw [e2] at h5
      simp only [Option.bind_some] at h5
      cases e3 : hkey x.1 with
      | none => rw [e3] at h5; cases h5
      | some k =>
        rw [e3] at h5
        simp only [Option.bind_some] at h5
        split at h5
        · rename_i hl
          cases h5
          have hpf := (h1.bon p hb).1
          refine ⟨θ, ρ, ih, _, _, h1, h2, e1, fun θ1 H1 v1 ev1 q1 r1 => ⟨θ1, ρ, x.2, _, _, q1, h2.mono ev1, e2, fun θ2 H2 v2 ev2 q2 r2 => ?_⟩⟩
          have evA := ev1.trans ev2
          have hp1 := evA.fr p _ h3 (.inl ⟨hpf, rfl⟩)
          have hb1 : p ∈ θ2.b := by
            obtain ⟨l, rfl, _⟩ := id evA.pre
            exact hb
          have r4 := h4.mono evA
          have hlen := r4.length.1
          rw [List.length_map] at hlen
          refine ⟨ys, k, hp1, ⟨.inl hp1, hs, hz, hn, r4.keys⟩, (r1.mono ev2).key (hkey_some e3).1, (hkey_some e3).2, fun ku vu rk rv => ?_⟩
          obtain ⟨c8, q8⟩ := Acc.put (u' := .ext (DAt w p (putE ys k ku vu))) q2 hb1 hp1 rfl rfl
          refine h6 θ2 _ ((EvP.of evA).trans ⟨rfl, fun θ0 H0 z q => q.skip z, .acc c8⟩) q8 ⟨_, upd_same, hs, by rw [putE_len]; split <;> omega, putE_nd hn, ?_⟩
          exact REs.acc c8 (REs.put e3 (r1.mono ev2) rk r2 rv r4)
        · cases h5
theorem loop_sim {α : Type} {AR : Addr → Th → Hp → α → Prop} (ha : AccR K w AR) {J : It} {s : Src} {g : MG} {t : Env → M Bool} {k : Env → IH → α → Option (α × IH)} {vs : List Nat} {p : Addr} {σ : L2.St} {H : Hp} {θ : Th} {ρ : Env} {ih ih' : IH} {a a' : α} {N : Hp → Prop}
    (hb : p ∈ θ.b) (h1 : RH K w mg T θ H ih) (h2 : RE K w θ H ρ (wipe σ vs)) (J0 : IterOk K w mg T θ H s J) (h3 : AR p θ H a) (h4 : loopC s.gd g t k ρ s.items ih a = some (a', ih'))
    (h5 : ∀ θ' H', EvP p θ H θ' H' → RH K w mg T θ' H' ih' → AR p θ' H' a' → N H') : tLoop J (simW K w mg T vs g) (simT K w mg T t) (simB K w mg T AR k p) vs σ H N := by
  refine ⟨fun i m H1 => m = s.items.length - i ∧ i ≤ s.items.length ∧ ∃ θ1 ih1 a1, EvP p θ H θ1 H1 ∧ RH K w mg T θ1 H1 ih1 ∧ AR p θ1 H1 a1 ∧ loopC s.gd g t k ρ (s.items.drop i) ih1 a1 = some (a', ih'),
    ⟨s.items.length, by simp, Nat.zero_le _, θ, ih, a, .refl _ _ _, h1, h3, by simpa using h4⟩, ?_⟩
  rintro i m H1 ⟨rfl, hi, θ1, ih1, a1, ev, q1, ar, e3⟩
  have hb1 : p ∈ θ1.b := by rw [ev.b]; exact hb
  have hpf : p ∉ θ1.h := (q1.bon p hb1).1
  by_cases hlt : i < s.items.length
  · rw [drop_cons hlt, loopC] at e3
    split at e3
    · rename_i hgd
      obtain ⟨a1', _⟩ := J0 _ H1 ih1 ev.lat q1 hgd
      obtain ⟨go, yl⟩ := a1' i s.items[i] (List.getElem?_eq_getElem hlt)
      cases e4 : g s.items[i] ρ ih1 with
      | none => rw [e4] at e3; cases e3
      | some p4 =>
        rw [e4] at e3
        simp only [Option.bind_some] at e3
        cases e5 : t p4.1 p4.2 with
        | none => rw [e5] at e3; cases e3
        | some b =>
          obtain ⟨b, ih5⟩ := b
          rw [e5] at e3
          simp only [Option.bind_some] at e3
          refine .inr ⟨go, fun H1 => ∃ θ1 ih1 a1, EvP p θ H θ1 H1 ∧ RH K w mg T θ1 H1 ih1 ∧ AR p θ1 H1 a1 ∧ loopC s.gd g t k ρ (s.items.drop (i + 1)) ih1 a1 = some (a', ih'), fun H' z => ⟨s.items.length - (i + 1), by omega, rfl, hlt, z⟩, fun x H' y => ?_⟩
          obtain ⟨ev1, q2, rd⟩ := yl x H' y
          refine ⟨_, ρ, ih1, _, p4.1, p4.2, q2, h2.lat (ev.lat.trans (.ev ev1)), rd, e4, fun θ3 H3 σ3 ev3 q3 r3 w3 => ⟨by rw [w3]; exact wipe_idem _ _, ?_⟩⟩
          refine ⟨θ3, p4.1, p4.2, b, ih5, q3, r3, e5, fun θ5 H5 b' ev5 q5 hbb => ?_⟩
          subst hbb
          have evA := ev1.trans (ev3.trans ev5)
          have ar5 := ha.stay p θ1 θ5 H1 H5 a1 hb1 hpf evA ar
          have evP := ev.trans (EvP.of evA)
          cases b with
          | false =>
            rw [if_neg Bool.false_ne_true] at e3 ⊢
            exact ⟨θ5, ih5, a1, evP, q5, ar5, e3⟩
          | true =>
            rw [if_pos rfl] at e3 ⊢
            cases e6 : k p4.1 ih5 a1 with
            | none => rw [e6] at e3; cases e3
            | some r6 =>
              rw [e6] at e3
              simp only [Option.bind_some] at e3
              have hb5 : p ∈ θ5.b := by rw [evP.b]; exact hb
              exact ⟨θ5, p4.1, ih5, a1, r6.1, r6.2, hb5, q5, r3.mono ev5, ar5, e6, fun θ7 H7 ev7 q7 ar7 => ⟨θ7, r6.2, r6.1, evP.trans ev7, q7, ar7, e3⟩⟩
    · cases e3
  · have e : i = s.items.length := by omega
    subst e
    rw [List.drop_length, loopC] at e3
    split at e3
    · rename_i hgd
      have hJ := (J0 _ H1 ih1 ev.lat q1 hgd).2
      cases e3
      exact .inl ⟨hJ, h5 θ1 H1 ev q1 ar⟩
    · cases e3
theorem mid_sim {α : Type} {AR : Addr → Th → Hp → α → Prop} (ha : AccR K w AR) {mi : Env → M Src} {g : MG} {t : Env → M Bool} {k : Env → IH → α → Option (α × IH)} {vs : List Nat} (p : Addr) (Nx : Hp → Prop) (σ : L2.St) (H : Hp) (h : simB K w mg T AR (midC mi vs g t k) p Nx σ H) :
    simI K w mg T mi σ H fun J H1 => tLoop J (simW K w mg T vs g) (simT K w mg T t) (simB K w mg T AR k p) vs σ H1 Nx := by
  obtain ⟨θ, ρ, ih, a, a', ih', hb, h1, h2, h3, h4, h5⟩ := h
  unfold midC at h4
  cases e1 : mi ρ ih with
  | none => rw [e1] at h4; cases h4
  | some s =>
    rw [e1] at h4
    simp only [Option.bind_some] at h4
    refine ⟨θ, ρ, ih, s.1, s.2, h1, h2, e1, fun θ1 H1 J ev q1 J0 => ?_⟩
    have hb1 : p ∈ θ1.b := by
      obtain ⟨l, rfl, _⟩ := id ev.pre
      exact hb
    exact loop_sim ha hb1 q1 ((h2.mono ev).wipe vs) J0 (ha.stay p θ θ1 H H1 a hb (h1.bon p hb).1 ev h3) h4 fun θ' H' ev' q' ar' => h5 θ' H' ((EvP.of ev).trans ev') q' ar'
end

/-! ### the rules -/
section
variable {T : List (Addr × Str)} {X : Cx}
abbrev KB (T : List (Addr × Str)) (X : Cx) {α : Type} (AR : Addr → Th → Hp → α → Prop) (Bd : (Value → Shared → Prop) → (Shared → Prop) → Shared → Prop) (vs : List Nat) (k : Env → IH → α → Option (α × IH)) (p : Addr) : Prop := PB X Bd vs (simB X.K X.w X.mg T AR k p)
theorem _root_.Gh.PB.le {Bd : (Value → Shared → Prop) → (Shared → Prop) → Shared → Prop} {vs : List Nat} {t u : (Hp → Prop) → L2.St → Hp → Prop} (h : PB X Bd vs t) (l : ∀ N σ H, u N σ H → t N σ H) : PB X Bd vs u := fun pins s σ H Nx EE G I q fin => h pins s σ H Nx EE G I (l Nx σ H q) fin
theorem kb_L {elt : Expr} {e : Env → M D} {vs : List Nat} (hx : X.xe = fun _ _ => False) (he : SE T X elt e) (p : Addr) : KB T X (arL X.K X.w) (bdL (model X.prog X.w) X.A X.env (.ref p) elt) vs (emL e) p := PB.le (pb_L hx he) fun N σ H q => emL_sim p N σ H q
theorem kb_D {kx vx : Expr} {ek ev : Env → M D} {vs : List Nat} (hu : X.A.units + 64 < cLine) (hx : X.xe = fun _ _ => False) (hk : SE T X kx ek) (he : SE T X vx ev) (p : Addr) : KB T X (arD X.K X.w) (bdD (model X.prog X.w) X.A X.env p kx vx) vs (emD ek ev) p := PB.le (pb_D hu hx hk he) fun N σ H q => emD_sim p N σ H q
theorem kb_ML {elt : Expr} {gens : List Comprehension} {scope : Scope} {pos : Pos} {d : Nat} {tg1 iter1 : Expr} {ifs1 : List Expr} {vs vs1 : List Nat} {mi : Env → M Src} {g : MG} {t : Env → M Bool} {k : Env → IH → List D → Option (List D × IH)} {p : Addr} {Bd1 : (Value → Shared → Prop) → (Shared → Prop) → Shared → Prop}
    (hc : X.calm = true) (hx : X.xe = fun _ _ => False) (hd : gens[d + 1]? = some ⟨tg1, iter1, ifs1, 0⟩) (hi1 : SI T X tg1 iter1 mi) (hg1 : WG T X vs1 tg1 g) (ht1 : STs T X ifs1 t) (hv : ∀ i ∈ vs1, i ∈ vs) (hB1 : KB T X (arL X.K X.w) Bd1 vs1 k p)
    (LL : ∀ it, LoopOk (model X.prog X.w) X.A X.env (.compLoop (.ListComp elt gens scope pos) (d + 1) it (.ref p) X.env) it tg1 ifs1 Bd1) :
    KB T X (arL X.K X.w) (bdM (model X.prog X.w) X.A X.env (.ref p) (.ListComp elt gens scope pos) d iter1) vs (midC mi vs1 g t k) p :=
  PB.le (pb_M hc hx hv hi1 hg1 ht1 hB1 LL fun it R s h0 h => start_L hd h0 h) fun N σ H q => mid_sim arL_ok p N σ H q
theorem kb_MD {kx vx : Expr} {gens : List Comprehension} {scope : Scope} {pos : Pos} {d : Nat} {tg1 iter1 : Expr} {ifs1 : List Expr} {vs vs1 : List Nat} {mi : Env → M Src} {g : MG} {t : Env → M Bool} {k : Env → IH → List (D × D) → Option (List (D × D) × IH)} {p : Addr} {Bd1 : (Value → Shared → Prop) → (Shared → Prop) → Shared → Prop}
    (hc : X.calm = true) (hx : X.xe = fun _ _ => False) (hd : gens[d + 1]? = some ⟨tg1, iter1, ifs1, 0⟩) (hi1 : SI T X tg1 iter1 mi) (hg1 : WG T X vs1 tg1 g) (ht1 : STs T X ifs1 t) (hv : ∀ i ∈ vs1, i ∈ vs) (hB1 : KB T X (arD X.K X.w) Bd1 vs1 k p)
    (LL : ∀ it, LoopOk (model X.prog X.w) X.A X.env (.compLoop (.DictComp kx vx gens scope pos) (d + 1) it (.ref p) X.env) it tg1 ifs1 Bd1) :
    KB T X (arD X.K X.w) (bdM (model X.prog X.w) X.A X.env (.ref p) (.DictComp kx vx gens scope pos) d iter1) vs (midC mi vs1 g t k) p :=
  PB.le (pb_M hc hx hv hi1 hg1 ht1 hB1 LL fun it R s h0 h => start_D hd h0 h) fun N σ H q => mid_sim arD_ok p N σ H q

/-! ### the whole -/
theorem compL_sim {mi : Env → M Src} {vs : List Nat} {g : MG} {t : Env → M Bool} {k : Env → IH → List D → Option (List D × IH)} (σ : L2.St) (H : Hp) (Q : VK) (h : simE X.K X.w X.mg T (xCompL mi vs g t k) σ H Q) :
    tComp (fun _ => .lst []) (simI X.K X.w X.mg T mi) (simW X.K X.w X.mg T vs g) (simT X.K X.w X.mg T t) (fun p => simB X.K X.w X.mg T (arL X.K X.w) k p) vs σ H Q := by
  obtain ⟨θ, ρ, ih, d, ih', h1, h2, h3, h4⟩ := h
  unfold xCompL midC at h3
  cases e1 : mi ρ ih with
  | none => rw [e1] at h3; cases h3
  | some s =>
    rw [e1] at h3
    simp only [Option.bind_some] at h3
    cases e2 : loopC s.1.gd g t k (wipeD ρ vs) s.1.items s.2 [] with
    | none => rw [e2] at h3; cases h3
    | some r =>
      rw [e2] at h3
      cases h3
      refine ⟨θ, ρ, ih, s.1, s.2, h1, h2, e1, fun θ0 H0 J ev0 q0 J0 p hp _ => ?_⟩
      obtain ⟨c0, q0'⟩ := Acc.lay (u := .lst []) q0 hp rfl
      refine loop_sim arL_ok (θ := ⟨θ0.h, p :: θ0.b⟩) (List.mem_cons_self ..) q0' ?_ (fun θ1 H1 ih1 l q gd => J0 θ1 H1 ih1 ((Lat.acc c0).trans l) q gd) ⟨[], upd_same, .nil⟩ e2 fun θ' H' ev q' ar => ?_
      · rw [wipe_idem]
        exact ((h2.mono ev0).wipe vs).lat (.acc c0)
      · obtain ⟨us, u1, u2⟩ := ar
        obtain ⟨hs, b⟩ := θ'
        have eb : b = p :: θ0.b := ev.b
        subst eb
        have hpf : p ∉ hs := (q'.bon p (List.mem_cons_self ..)).1
        have hpb : p ∉ θ0.b := fun hm => by
          obtain ⟨_, o, z, _⟩ := q0.bon p hm
          rw [hp] at z
          cases z
        obtain ⟨c9, q9⟩ := Acc.done q'
        exact h4 ⟨hs, θ0.b⟩ H' (.ref p) (ev0.trans (ev.ev θ0 H0 hp ((Ev.refl _ _).skip hp))) q9 (.lst ⟨hpf, hpb⟩ (.of u1) (RDs.acc c9 u2))
def frzQ (Q : VK) : VK := fun v H => ∃ p φ, v = .ref p ∧ H p = some (.ext φ) ∧ ∀ od, Q v (upd H p (.frz od (.ext φ)))
theorem compD_sim {mi : Env → M Src} {vs : List Nat} {g : MG} {t : Env → M Bool} {k : Env → IH → List (D × D) → Option (List (D × D) × IH)} (σ : L2.St) (H : Hp) (Q : VK) (h : simE X.K X.w X.mg T (xCompD mi vs g t k) σ H Q) :
    tComp (fun p => .ext (DAt X.w p [])) (simI X.K X.w X.mg T mi) (simW X.K X.w X.mg T vs g) (simT X.K X.w X.mg T t) (fun p => simB X.K X.w X.mg T (arD X.K X.w) k p) vs σ H (frzQ Q) := by
  obtain ⟨θ, ρ, ih, d, ih', h1, h2, h3, h4⟩ := h
  unfold xCompD midC at h3
  cases e1 : mi ρ ih with
  | none => rw [e1] at h3; cases h3
  | some s =>
    rw [e1] at h3
    simp only [Option.bind_some] at h3
    cases e2 : loopC s.1.gd g t k (wipeD ρ vs) s.1.items s.2 [] with
    | none => rw [e2] at h3; cases h3
    | some r =>
      rw [e2] at h3
      cases h3
      refine ⟨θ, ρ, ih, s.1, s.2, h1, h2, e1, fun θ0 H0 J ev0 q0 J0 p hp hps => ?_⟩
      obtain ⟨c0, q0'⟩ := Acc.lay (u := .ext (DAt X.w p [])) q0 hp rfl
      refine loop_sim arD_ok (θ := ⟨θ0.h, p :: θ0.b⟩) (List.mem_cons_self ..) q0' ?_ (fun θ1 H1 ih1 l q gd => J0 θ1 H1 ih1 ((Lat.acc c0).trans l) q gd) ⟨[], upd_same, hps, Nat.zero_le _, List.nodup_nil, .nil⟩ e2 fun θ' H' ev q' ar => ?_
      · rw [wipe_idem]
        exact ((h2.mono ev0).wipe vs).lat (.acc c0)
      · obtain ⟨ys, u1, u2, u3, u4, u5⟩ := ar
        obtain ⟨hs, b⟩ := θ'
        have eb : b = p :: θ0.b := ev.b
        subst eb
        have hpf : p ∉ hs := (q'.bon p (List.mem_cons_self ..)).1
        have hpb : p ∉ θ0.b := fun hm => by
          obtain ⟨_, o, z, _⟩ := q0.bon p hm
          rw [hp] at z
          cases z
        refine ⟨p, _, rfl, u1, fun od => ?_⟩
        obtain ⟨c8, q8⟩ := Acc.put (u' := .frz od (.ext (DAt X.w p ys))) q' (List.mem_cons_self ..) u1 rfl rfl
        obtain ⟨c9, q9⟩ := Acc.done q8
        exact h4 ⟨hs, θ0.b⟩ _ (.ref p) (ev0.trans ((ev.ev θ0 H0 hp ((Ev.refl _ _).skip hp)).skip hp)) q9 (.dct ⟨hpf, hpb⟩ upd_same u2 u3 u4 (REs.acc c9 (REs.acc c8 u5)))
section
variable {e tg iter : Expr} {ifs : List Expr} {rest : List Comprehension} {scope : Scope} {own : List (Str × Nat)} {pos : Pos} {mi : Env → M Src} {g : MG} {t : Env → M Bool}
theorem se_compL {elt : Expr} {k : Env → IH → List D → Option (List D × IH)} {Bd : Addr → PySem.Env → (Value → Shared → Prop) → (Shared → Prop) → Shared → Prop} (hc : X.calm = true) (hN : X.N.Nodup) (hi : SI T X tg iter mi) (ok : BlkOk X.N X.env.scope scope own)
    (hg : ∀ (s : Shared) (H : Hp) (C : Addr) (cl : List (Str × Addr)) (fp : List Addr), WG T (X.blk s H scope (compEnvC scope cl C X.env) fp) (own.map (·.2)) tg g) (ht : ∀ (s : Shared) (H : Hp) (C : Addr) (cl : List (Str × Addr)) (fp : List Addr), STs T (X.blk s H scope (compEnvC scope cl C X.env) fp) ifs t)
    (LL : ∀ (p : Addr) (env : PySem.Env) (it : Value), LoopOk (model X.prog X.w) X.A env (.compLoop (.ListComp elt (⟨tg, iter, ifs, 0⟩ :: rest) scope pos) 0 it (.ref p) env) it tg ifs (Bd p env))
    (hB : ∀ (p : Addr) (s : Shared) (H : Hp) (C : Addr) (cl : List (Str × Addr)) (fp : List Addr), KB T (X.blk s H scope (compEnvC scope cl C X.env) fp) (arL X.K X.w) (Bd p (compEnvC scope cl C X.env)) (own.map (·.2)) k p)
    (hs : ∀ x, foldedSetIterable iter X.env x = pure x := by intro _; rfl) : SE T X (.ListComp elt (⟨tg, iter, ifs, 0⟩ :: rest) scope pos) (xCompL mi (own.map (·.2)) g t k) := by
  refine ⟨fun pins s σ H Q I h => ?_⟩
  rw [eval_ListComp]
  refine comp_core (e := .ListComp elt (⟨tg, iter, ifs, 0⟩ :: rest) scope pos) rfl hc hN I hi ok (fun s Q E h => newL_ok h) obL_ok hg ht hB LL (fun p env it R s h0 h => start_L rfl h0 h) hs (compL_sim σ H Q h) fun D C s' m H' I' q hn f => ⟨m, hn, fun h'' sb => ?_⟩
  obtain ⟨f0, f1, f2, f3, f4, f5⟩ := f
  exact ⟨.ref D, H', I'.turned (t' := s'.toks) (fun b o hb e => (sb.2 b hb).trans e) f0 f1 f3 f4 f5, rfl, q⟩
theorem se_compD {kx vx : Expr} {k : Env → IH → List (D × D) → Option (List (D × D) × IH)} {Bd : Addr → PySem.Env → (Value → Shared → Prop) → (Shared → Prop) → Shared → Prop} (hc : X.calm = true) (hN : X.N.Nodup) (hi : SI T X tg iter mi) (ok : BlkOk X.N X.env.scope scope own)
    (hg : ∀ (s : Shared) (H : Hp) (C : Addr) (cl : List (Str × Addr)) (fp : List Addr), WG T (X.blk s H scope (compEnvC scope cl C X.env) fp) (own.map (·.2)) tg g) (ht : ∀ (s : Shared) (H : Hp) (C : Addr) (cl : List (Str × Addr)) (fp : List Addr), STs T (X.blk s H scope (compEnvC scope cl C X.env) fp) ifs t)
    (LL : ∀ (p : Addr) (env : PySem.Env) (it : Value), LoopOk (model X.prog X.w) X.A env (.compLoop (.DictComp kx vx (⟨tg, iter, ifs, 0⟩ :: rest) scope pos) 0 it (.ref p) env) it tg ifs (Bd p env))
    (hB : ∀ (p : Addr) (s : Shared) (H : Hp) (C : Addr) (cl : List (Str × Addr)) (fp : List Addr), KB T (X.blk s H scope (compEnvC scope cl C X.env) fp) (arD X.K X.w) (Bd p (compEnvC scope cl C X.env)) (own.map (·.2)) k p)
    (hs : ∀ x, foldedSetIterable iter X.env x = pure x := by intro _; rfl) : SE T X (.DictComp kx vx (⟨tg, iter, ifs, 0⟩ :: rest) scope pos) (xCompD mi (own.map (·.2)) g t k) := by
  refine ⟨fun pins s σ H Q I h => ?_⟩
  rw [arm_eval_DictComp]
  refine comp_core (e := .DictComp kx vx (⟨tg, iter, ifs, 0⟩ :: rest) scope pos) rfl hc hN I hi ok (fun s Q E h => newD_ok h) obD_ok hg ht hB LL (fun p env it R s h0 h => start_D rfl h0 h) hs (compD_sim σ H Q h) fun D C s' m H' I' q hn f => ?_
  obtain ⟨p, φ, e, hp, q⟩ := q
  cases e
  obtain ⟨od, I1⟩ := I'.lock hp trivial
  refine ⟨m, hn, fun h'' sb => ?_⟩
  obtain ⟨f0, f1, f2, f3, f4, f5⟩ := f
  exact ⟨.ref D, _, I1.turned (t' := s'.toks) (fun b o hb e => (sb.2 b hb).trans e) (by rw [upd_ne (fun z => by rw [z, hp] at f0; cases f0)]; exact f0) f1 f3 f4 f5, rfl, q od⟩
theorem set_sim {i : Nat} {m : Env → M D} {D : Ends} {σ : L2.St} {H : Hp} (h : simS X.K X.w X.mg T (ySet i m) D σ H) : simE X.K X.w X.mg T m σ H (fun x H1 => D.nx (σ.set i (some x)) H1) := by
  obtain ⟨θ, ρ, ih, f, ρ', ih', h1, h2, h3, h4⟩ := h
  unfold ySet at h3
  cases e1 : m ρ ih with
  | none => rw [e1] at h3; cases h3
  | some p =>
    rw [e1] at h3
    cases h3
    exact ⟨θ, ρ, ih, _, _, h1, h2, e1, fun θ1 H1 v ev q1 r1 => h4 θ1 H1 _ ev q1 ((h2.mono ev).set r1 i)⟩
/-- name = a comprehension, the name a local -/
theorem ss_setCL {elt : Expr} {i : Nat} {y : Str} {py spos : Pos} {k : Env → IH → List D → Option (List D × IH)} {Bd : Addr → PySem.Env → (Value → Shared → Prop) → (Shared → Prop) → Shared → Prop} (hc : X.calm = true) (hN : X.N.Nodup) (hy : X.N[i]? = some y) (hyl : X.env.scope.names.lookup y = some .local)
    (hsw : swapsWith (.ListComp elt (⟨tg, iter, ifs, 0⟩ :: rest) scope pos) (some (.Name y py)) spos.line X.env = pure true) (hi : SI T X tg iter mi) (ok : BlkOk X.N X.env.scope scope own)
    (hg : ∀ (s : Shared) (H : Hp) (C : Addr) (cl : List (Str × Addr)) (fp : List Addr), WG T (X.blk s H scope (compEnvC scope cl C X.env) fp) (own.map (·.2)) tg g) (ht : ∀ (s : Shared) (H : Hp) (C : Addr) (cl : List (Str × Addr)) (fp : List Addr), STs T (X.blk s H scope (compEnvC scope cl C X.env) fp) ifs t)
    (LL : ∀ (p : Addr) (env : PySem.Env) (it : Value), LoopOk (model X.prog X.w) X.A env (.compLoop (.ListComp elt (⟨tg, iter, ifs, 0⟩ :: rest) scope pos) 0 it (.ref p) env) it tg ifs (Bd p env))
    (hB : ∀ (p : Addr) (s : Shared) (H : Hp) (C : Addr) (cl : List (Str × Addr)) (fp : List Addr), KB T (X.blk s H scope (compEnvC scope cl C X.env) fp) (arL X.K X.w) (Bd p (compEnvC scope cl C X.env)) (own.map (·.2)) k p)
    (hs : ∀ x, foldedSetIterable iter X.env x = pure x := by intro _; rfl) : SS T X (.Assign [.Name y py] (.ListComp elt (⟨tg, iter, ifs, 0⟩ :: rest) scope pos) spos) (ySet i (xCompL mi (own.map (·.2)) g t k)) := by
  refine ⟨fun pins s σ H D I h => ?_⟩
  rw [exec_Assign_Name_used _ _ _ _ hsw]
  refine wpAny_bind (wpAny_standAt (wpAny_bind ?_))
  show wpAny _ X.A (do let _ ← comprehension (.ListComp elt (⟨tg, iter, ifs, 0⟩ :: rest) scope pos) scope X.env (firstIterPos (⟨tg, iter, ifs, 0⟩ :: rest) pos) (newList []) false (eval iter X.env) (some (assign (.Name y py) X.env))) _ _ s
  have h : simE X.K X.w X.mg T (xCompL mi (own.map (·.2)) g t k) σ H (fun x H1 => D.nx (σ.set i (some x)) H1) := set_sim h
  refine wpAny_bind (thn (comp_core (e := .ListComp elt (⟨tg, iter, ifs, 0⟩ :: rest) scope pos) (Qf := fun _ s' => SP X pins D .next s') rfl hc hN I hi ok (fun s Q E h => newL_ok h) obL_ok hg ht hB LL (fun p env it R s h0 h => start_L rfl h0 h) hs (compL_sim σ H _ h) fun L C s' m H' I' q hn f => ?_) fun _ s' hq => wpAny_pure (wpAny_pure hq))
  show wpAny _ _ (assign (.Name y py) X.env (.ref L)) _ _ _
  refine wpAny_assign_Name (store_ok2 (v := V.ref L) I' hN hy (.inl hyl) rfl (fun s2 I2 ⟨a, sb, ha⟩ => ?_) (.inr hyl))
  obtain ⟨f0, f1, f2, f3, f4, f5⟩ := f
  have haC : C ≠ a := by
    rcases ha with z | z
    · rw [z]; exact f1
    · exact fun e => f4 y a z e.symm
  refine ⟨m, hn.sameBut sb haC, fun h3 sb3 => ?_⟩
  exact ⟨_, H', I2.turned (t' := s2.toks) (fun b o hb e => (sb3.2 b hb).trans e) f0 f1 f3 f4 f5, q⟩
theorem ss_setCD {kx vx : Expr} {i : Nat} {y : Str} {py spos : Pos} {k : Env → IH → List (D × D) → Option (List (D × D) × IH)} {Bd : Addr → PySem.Env → (Value → Shared → Prop) → (Shared → Prop) → Shared → Prop} (hc : X.calm = true) (hN : X.N.Nodup) (hy : X.N[i]? = some y) (hyl : X.env.scope.names.lookup y = some .local)
    (hsw : swapsWith (.DictComp kx vx (⟨tg, iter, ifs, 0⟩ :: rest) scope pos) (some (.Name y py)) spos.line X.env = pure true) (hi : SI T X tg iter mi) (ok : BlkOk X.N X.env.scope scope own)
    (hg : ∀ (s : Shared) (H : Hp) (C : Addr) (cl : List (Str × Addr)) (fp : List Addr), WG T (X.blk s H scope (compEnvC scope cl C X.env) fp) (own.map (·.2)) tg g) (ht : ∀ (s : Shared) (H : Hp) (C : Addr) (cl : List (Str × Addr)) (fp : List Addr), STs T (X.blk s H scope (compEnvC scope cl C X.env) fp) ifs t)
    (LL : ∀ (p : Addr) (env : PySem.Env) (it : Value), LoopOk (model X.prog X.w) X.A env (.compLoop (.DictComp kx vx (⟨tg, iter, ifs, 0⟩ :: rest) scope pos) 0 it (.ref p) env) it tg ifs (Bd p env))
    (hB : ∀ (p : Addr) (s : Shared) (H : Hp) (C : Addr) (cl : List (Str × Addr)) (fp : List Addr), KB T (X.blk s H scope (compEnvC scope cl C X.env) fp) (arD X.K X.w) (Bd p (compEnvC scope cl C X.env)) (own.map (·.2)) k p)
    (hs : ∀ x, foldedSetIterable iter X.env x = pure x := by intro _; rfl) : SS T X (.Assign [.Name y py] (.DictComp kx vx (⟨tg, iter, ifs, 0⟩ :: rest) scope pos) spos) (ySet i (xCompD mi (own.map (·.2)) g t k)) := by
  refine ⟨fun pins s σ H D I h => ?_⟩
  rw [exec_Assign_Name_used _ _ _ _ hsw]
  refine wpAny_bind (wpAny_standAt (wpAny_bind ?_))
  show wpAny _ X.A (do let _ ← comprehension (.DictComp kx vx (⟨tg, iter, ifs, 0⟩ :: rest) scope pos) scope X.env (firstIterPos (⟨tg, iter, ifs, 0⟩ :: rest) pos) newDict false (eval iter X.env) (some (assign (.Name y py) X.env))) _ _ s
  have h : simE X.K X.w X.mg T (xCompD mi (own.map (·.2)) g t k) σ H (fun x H1 => D.nx (σ.set i (some x)) H1) := set_sim h
  refine wpAny_bind (thn (comp_core (e := .DictComp kx vx (⟨tg, iter, ifs, 0⟩ :: rest) scope pos) (Qf := fun _ s' => SP X pins D .next s') rfl hc hN I hi ok (fun s Q E h => newD_ok h) obD_ok hg ht hB LL (fun p env it R s h0 h => start_D rfl h0 h) hs (compD_sim σ H _ h) fun L C s' m H' I' q hn f => ?_) fun _ s' hq => wpAny_pure (wpAny_pure hq))
  obtain ⟨p, φ, e, hp, q⟩ := q
  cases e
  obtain ⟨od, I1⟩ := I'.lock hp trivial
  show wpAny _ _ (assign (.Name y py) X.env (.ref L)) _ _ _
  refine wpAny_assign_Name (store_ok2 (v := V.ref L) I1 hN hy (.inl hyl) rfl (fun s2 I2 ⟨a, sb, ha⟩ => ?_) (.inr hyl))
  obtain ⟨f0, f1, f2, f3, f4, f5⟩ := f
  have haC : C ≠ a := by
    rcases ha with z | z
    · rw [z]; exact f1
    · exact fun e => f4 y a z e.symm
  refine ⟨m, hn.sameBut sb haC, fun h3 sb3 => ?_⟩
  exact ⟨_, _, I2.turned (t' := s2.toks) (fun b o hb e => (sb3.2 b hb).trans e) (by rw [upd_ne (fun z => by rw [z, hp] at f0; cases f0)]; exact f0) f1 f3 f4 f5, q od⟩
end
end
end Gh
end
section
set_option Elab.async false
set_option linter.all false
set_option maxRecDepth 100000
/-! Builtins, subscripts, slices, methods. -/
namespace Gh
open PySem PySem.Spec PyProof.Rows L2

/-! ### what they give -/
def asInt : D → Option Int
  | .int i => some i
  | _ => none
def asInts : List D → Option (List Int)
  | [] => some []
  | d :: ds => (asInt d).bind fun i => (asInts ds).map fun is => i :: is
def asBools : List D → Option (List Bool)
  | [] => some []
  | d :: ds => (asB d).bind fun i => (asBools ds).map fun is => i :: is
/-- the items of a list, a tuple -/
def itemsOf (d : D) (ih : IH) : Option (List D) := match d with
  | .tup ds => some ds
  | .lst ds => some ds
  | .obj n => match ih[n]? with
    | some (.lst ds) => some ds
    | _ => none
  | _ => none
def listOf (d : D) (ih : IH) : Option (List D) := match d with
  | .lst ds => some ds
  | .obj n => match ih[n]? with
    | some (.lst ds) => some ds
    | _ => none
  | _ => none
def lenOf (d : D) (ih : IH) : Option Nat := match d with
  | .tup ds => some ds.length
  | .lst ds => some ds.length
  | .dct ks _ => some ks.length
  | .str x => if x.length ≤ sizeLine then some x.length else none
  | .obj n => match ih[n]? with
    | some (.lst ds) => some ds.length
    | some (.dct kvs) => some kvs.length
    | some (.lck kvs) => some kvs.length
    | _ => none
  | _ => none
def f1 (f : D → IH → Option D) : List D → M D := fun ds ih => match ds with
  | [d] => (f d ih).map fun r => (r, ih)
  | _ => none
def fLen : List D → M D := f1 fun d ih => (lenOf d ih).map fun n => .int (n : Nat)
def fSum : List D → M D := f1 fun d ih => ((listOf d ih).bind asInts).map fun is => .int is.sum
def fAll : List D → M D := f1 fun d ih => ((listOf d ih).bind asBools).map fun bs => .bl (bs.all id)
def fAny : List D → M D := f1 fun d ih => ((listOf d ih).bind asBools).map fun bs => .bl (bs.any id)
def minI : List Int → Option Int
  | [] => none
  | i :: is => some (is.foldl (fun a b => if b < a then b else a) i)
def maxI : List Int → Option Int
  | [] => none
  | i :: is => some (is.foldl (fun a b => if a < b then b else a) i)
def fMinL : List D → M D := f1 fun d ih => ((listOf d ih).bind asInts).bind fun is => (minI is).map fun i => .int i
def fAbs : List D → M D := f1 fun d _ => (asInt d).map fun i => .int (if i < 0 then -i else i)
def fInt : List D → M D := f1 fun d _ => (asInt d).map fun i => .int i
def fTuple : List D → M D := f1 fun d ih => (itemsOf d ih).map fun ds => .tup ds
def fList : List D → M D := f1 fun d ih => (itemsOf d ih).map fun ds => .lst ds
def fListH : List D → M D := fun ds ih => match ds with
  | [d] => (itemsOf d ih).map fun r => (.obj ih.length, ih ++ [.lst r])
  | _ => none
def sortI (is : List Int) : List Int := is.mergeSort fun a b => decide (a ≤ b)
def fSortL : List D → M D := f1 fun d ih => ((listOf d ih).bind asInts).map fun is => .lst ((sortI is).map .int)
def fMin2 : List D → M D := fun ds ih => match ds with
  | [.int i, .int j] => some (.int (if j < i then j else i), ih)
  | _ => none
def fIsInt (d : D) : M D := fun ih => match d with
  | .int _ => some (.bl true, ih)
  | .bl _ => some (.bl true, ih)
  | .tup _ => some (.bl false, ih)
  | .str _ => some (.bl false, ih)
  | .non => some (.bl false, ih)
  | _ => none
def atD (ds : List D) (i : Int) : Option D := atI ds i
def fIx (a b : D) : M D := fun ih => match a with
  | .tup ds => (asInt b).bind fun i => (atD ds i).map fun d => (d, ih)
  | .lst ds => (asInt b).bind fun i => (atD ds i).map fun d => (d, ih)
  | .str z => if z.length ≤ sizeLine then (asInt b).bind fun i => (atI z.cps.toList i).map fun c => (.str ⟨#[c]⟩, ih) else none
  | .dct _ _ => fIxD a b ih
  | .obj n => match ih[n]? with
    | some (.lst ds) => (asInt b).bind fun i => (atD ds i).map fun d => (d, ih)
    | _ => fIxD a b ih
  | _ => none
def cutD (ds : List D) (lo hi : Option Int) : List D := (ds.drop (HT.sIx ds.length 0 lo)).take (HT.sIx ds.length ds.length hi - HT.sIx ds.length 0 lo)
def xPart (m : Env → M D) : Env → IH → Option (Option Int × IH) := fun ρ ih => (m ρ ih).bind fun p => (asInt p.1).map fun i => (some i, p.2)
def xNoPart : Env → IH → Option (Option Int × IH) := fun _ ih => some (none, ih)
def xSl (m : Env → M D) (lo hi : Env → IH → Option (Option Int × IH)) : Env → M D := fun ρ ih => (m ρ ih).bind fun p => (lo ρ p.2).bind fun l => (hi ρ l.2).bind fun h => match p.1 with
  | .tup ds => some (.tup (cutD ds l.1 h.1), h.2)
  | _ => none

section
variable {K : PySem.W.Frag} {w : World} {mg : Str → Option Value} {T : List (Addr × Str)} {θ : Th} {H : Hp} {ih : IH}
theorem vn1 {f : D → IH → Option D} {r : List V → Hp → VK → Prop}
    (h : ∀ (θ : Th) (H : Hp) (ih : IH) (d e : D) (x : V) (Q : VK), RH K w mg T θ H ih → RD K w θ H d x → f d ih = some e → (∀ θ' H' v, Ev θ H θ' H' → RH K w mg T θ' H' ih → RD K w θ' H' e v → Q v H') → r [x] H Q) : VN K w mg T (f1 f) r := by
  intro θ H ih as xs d ih' Q h1 h2 h3 h4
  unfold f1 at h3
  split at h3
  · rename_i a
    cases h2 with
    | cons ra rr =>
      cases rr
      cases e : f a ih with
      | none => rw [e] at h3; cases h3
      | some e' =>
        rw [e] at h3
        cases h3
        exact h θ H ih a _ _ Q h1 ra e h4
  · cases h3
theorem asInt_ok {d : D} {x : V} {i : Int} (r : RD K w θ H d x) (e : asInt d = some i) : x = .int i := by
  cases r <;> first | (cases e; rfl) | cases e
theorem asInts_ok : ∀ {ds : List D} {xs : List V} {is : List Int}, RDs K w θ H ds xs → asInts ds = some is → xs = is.map V.int
  | _, _, _, .nil, e => by cases e; rfl
  | _, _, _, .cons (d := d) (ds := ds) r rr, e => by
    unfold asInts at e
    cases e1 : asInt d with
    | none => rw [e1] at e; cases e
    | some i =>
      rw [e1] at e
      simp only [Option.bind_some] at e
      cases e2 : asInts ds with
      | none => rw [e2] at e; cases e
      | some is =>
        rw [e2] at e
        cases e
        rw [List.map_cons, asInt_ok r e1, asInts_ok rr e2]
theorem asBools_ok : ∀ {ds : List D} {xs : List V} {is : List Bool}, RDs K w θ H ds xs → asBools ds = some is → xs = is.map V.bl
  | _, _, _, .nil, e => by cases e; rfl
  | _, _, _, .cons (d := d) (ds := ds) r rr, e => by
    unfold asBools at e
    cases e1 : asB d with
    | none => rw [e1] at e; cases e
    | some i =>
      rw [e1] at e
      simp only [Option.bind_some] at e
      cases e2 : asBools ds with
      | none => rw [e2] at e; cases e
      | some is =>
        rw [e2] at e
        cases e
        rw [List.map_cons, asBools_ok rr e2]
        cases r <;> first | (cases e1; rfl) | cases e1
theorem ints_rd (is : List Int) : RDs K w θ H (is.map .int) (is.map V.int) := by
  induction is with
  | nil => exact .nil
  | cons i is ih => exact .cons (.int i) ih
theorem listOf_ok (h : RH K w mg T θ H ih) {d : D} {x : V} {ds : List D} (r : RD K w θ H d x) (e : listOf d ih = some ds) : ∃ a vs, x = .ref a ∧ SqL K H a vs ∧ RDs K w θ H ds vs := by
  cases r with
  | lst a b r => cases e; exact ⟨_, _, rfl, .inl b, r⟩
  | @obj n a hn =>
    unfold listOf at e
    simp only at e
    split at e
    · rename_i ds hk
      cases e
      have ro := h.at_ n a _ hn hk
      cases ro with
      | lst z r => exact ⟨_, _, rfl, .of z, r⟩
    · cases e
  | _ => cases e
theorem itemsOf_ok (h : RH K w mg T θ H ih) {d : D} {x : V} {ds : List D} (r : RD K w θ H d x) (e : itemsOf d ih = some ds) : ∃ a vs, x = .ref a ∧ (SqL K H a vs ∨ SqT K H a vs) ∧ RDs K w θ H ds vs ∧ (d = .tup ds → SqT K H a vs) := by
  cases r with
  | tup a r => cases e; exact ⟨_, _, rfl, .inr a, r, fun _ => a⟩
  | lst a b r => cases e; exact ⟨_, _, rfl, .inl (.inl b), r, fun z => nomatch z⟩
  | @obj n a hn =>
    unfold itemsOf at e
    simp only at e
    split at e
    · rename_i ds hk
      cases e
      have ro := h.at_ n a _ hn hk
      cases ro with
      | lst z r => exact ⟨_, _, rfl, .inl (.of z), r, fun z => nomatch z⟩
    · cases e
  | _ => cases e
theorem bindNone {α β : Type} {a : Option α} {f : α → Option β} {r : β} (h : a.bind f = some r) : ∃ x, a = some x ∧ f x = some r := Option.bind_eq_some_iff.mp h
theorem mapNone {α β : Type} {a : Option α} {f : α → β} {r : β} (h : a.map f = some r) : ∃ x, a = some x ∧ f x = r := Option.map_eq_some_iff.mp h

def rLenA (K : PySem.W.Frag) (w : World) : List V → Hp → VK → Prop := fun xs H Q => (∃ p ys, xs = [.ref p] ∧ (SqL K H p ys ∨ SqT K H p ys) ∧ Q (.int ys.length) H) ∨ (∃ z, xs = [.str z] ∧ z.length ≤ sizeLine ∧ Q (.int z.length) H) ∨ ∃ a ys, xs = [.ref a] ∧ DH K w H a ys ∧ Q (.int ys.length) H
theorem vn_len : VN K w mg T fLen (rLenA K w) := vn1 fun θ H ih d e x Q h r he q => by
  obtain ⟨n, e1, rfl⟩ := mapNone he
  cases r with
  | tup a r => cases e1; exact .inl ⟨_, _, rfl, .inr a, by rw [r.length]; exact q θ H _ (.refl _ _) h (.int _)⟩
  | lst a b r => cases e1; exact .inl ⟨_, _, rfl, .inl (.inl b), by rw [r.length]; exact q θ H _ (.refl _ _) h (.int _)⟩
  | dct a h1 h2 h3 h4 r => cases e1; exact .inr (.inr ⟨_, _, rfl, ⟨.inr ⟨_, h1⟩, h2, h3, h4, r.keys⟩, by rw [r.length.1]; exact q θ H _ (.refl _ _) h (.int _)⟩)
  | str x =>
    unfold lenOf at e1
    simp only at e1
    split at e1
    · rename_i hz
      cases e1
      exact .inr (.inl ⟨_, rfl, hz, q θ H _ (.refl _ _) h (.int _)⟩)
    · cases e1
  | @obj m a hn =>
    unfold lenOf at e1
    simp only at e1
    split at e1
    · rename_i ds hk
      cases e1
      cases h.at_ m a _ hn hk with
      | lst z r => exact .inl ⟨_, _, rfl, .inl (.of z), by rw [r.length]; exact q θ H _ (.refl _ _) h (.int _)⟩
    · rename_i kvs hk
      cases e1
      cases h.at_ m a _ hn hk with
      | dct z z1 z2 z3 r => exact .inr (.inr ⟨_, _, rfl, ⟨.inl z, z1, z2, z3, r.keys⟩, by rw [r.length.1, List.length_map]; exact q θ H _ (.refl _ _) h (.int _)⟩)
    · rename_i kvs hk
      cases e1
      cases h.at_ m a _ hn hk with
      | lck z z1 z2 z3 r => exact .inr (.inr ⟨_, _, rfl, ⟨.inr ⟨_, z⟩, z1, z2, z3, r.keys⟩, by rw [r.length.1, List.length_map]; exact q θ H _ (.refl _ _) h (.int _)⟩)
    · cases e1
  | _ => cases e1
theorem vn_sum : VN K w mg T fSum (rSum K) := vn1 fun θ H ih d e x Q h r he q => by
  obtain ⟨is, e1, rfl⟩ := mapNone he
  obtain ⟨ds, e2, e3⟩ := bindNone e1
  obtain ⟨a, vs, rfl, hq, rs⟩ := listOf_ok h r e2
  rw [asInts_ok rs e3] at hq
  exact ⟨a, is, rfl, hq, q θ H _ (.refl _ _) h (.int _)⟩
theorem vn_all : VN K w mg T fAll (rAll K) := vn1 fun θ H ih d e x Q h r he q => by
  obtain ⟨is, e1, rfl⟩ := mapNone he
  obtain ⟨ds, e2, e3⟩ := bindNone e1
  obtain ⟨a, vs, rfl, hq, rs⟩ := listOf_ok h r e2
  rw [asBools_ok rs e3] at hq
  exact ⟨a, is, rfl, hq, q θ H _ (.refl _ _) h (.bl _)⟩
theorem vn_any : VN K w mg T fAny (rAny K) := vn1 fun θ H ih d e x Q h r he q => by
  obtain ⟨is, e1, rfl⟩ := mapNone he
  obtain ⟨ds, e2, e3⟩ := bindNone e1
  obtain ⟨a, vs, rfl, hq, rs⟩ := listOf_ok h r e2
  rw [asBools_ok rs e3] at hq
  exact ⟨a, is, rfl, hq, q θ H _ (.refl _ _) h (.bl _)⟩
theorem foldl_min : ∀ (is : List Int) (i : Int), (∀ j ∈ i :: is, is.foldl (fun a b => if b < a then b else a) i ≤ j) ∧ is.foldl (fun a b => if b < a then b else a) i ∈ i :: is
  | [], i => by simp
  | j :: is, i => by
    rw [List.foldl_cons]
    obtain ⟨h1, h2⟩ := foldl_min is (if j < i then j else i)
    refine ⟨fun k hk => ?_, ?_⟩
    · have hm := h1 (if j < i then j else i) (List.mem_cons_self ..)
      rcases List.mem_cons.mp hk with rfl | hk
      · split at hm <;> rename_i hc <;> simp only [hc, if_true, if_false] <;> omega
      · rcases List.mem_cons.mp hk with rfl | hk
        · split at hm <;> rename_i hc <;> simp only [hc, if_true, if_false] <;> omega
        · exact h1 k (List.mem_cons_of_mem _ hk)
    · rcases List.mem_cons.mp h2 with e | h2
      · rw [e]
        split
        · simp
        · simp
      · simp [h2]
theorem minI_ok {is : List Int} {i m : Int} (h : minI is = some i) (hm : m ∈ is) (hl : ∀ y ∈ is, m ≤ y) : m = i := by
  cases is with
  | nil => cases hm
  | cons j is =>
    cases h
    obtain ⟨h1, h2⟩ := foldl_min is j
    have := h1 m hm
    have := hl _ h2
    omega
theorem vn_minL : VN K w mg T fMinL (rMin K) := vn1 fun θ H ih d e x Q h r he q => by
  obtain ⟨is, e1, e4⟩ := bindNone he
  obtain ⟨m0, e5, rfl⟩ := mapNone e4
  obtain ⟨ds, e2, e3⟩ := bindNone e1
  obtain ⟨a, vs, rfl, hq, rs⟩ := listOf_ok h r e2
  rw [asInts_ok rs e3] at hq
  refine ⟨a, is, rfl, hq, ?_, fun m hm hl => ?_⟩
  · cases is with
    | nil => cases e5
    | cons _ _ => exact Nat.succ_pos _
  · rw [minI_ok e5 hm hl]
    exact q θ H _ (.refl _ _) h (.int _)
theorem vn_abs : VN K w mg T fAbs (fun xs H Q => ∃ i, xs = [.int i] ∧ Q (.int (if i < 0 then -i else i)) H) := vn1 fun θ H ih d e x Q h r he q => by
  obtain ⟨i, e1, rfl⟩ := mapNone he
  rw [asInt_ok r e1]
  exact ⟨i, rfl, q θ H _ (.refl _ _) h (.int _)⟩
theorem vn_int : VN K w mg T fInt (fun xs H Q => (∃ i, xs = [.int i] ∧ Q (.int i) H) ∨ ∃ k, xs = [.bl k] ∧ Q (.int (if k then 1 else 0)) H) := vn1 fun θ H ih d e x Q h r he q => by
  obtain ⟨i, e1, rfl⟩ := mapNone he
  rw [asInt_ok r e1]
  exact .inl ⟨i, rfl, q θ H _ (.refl _ _) h (.int _)⟩
theorem vn_tuple : VN K w mg T fTuple (fun xs H Q => ∃ p ys, xs = [.ref p] ∧ ((SqL K H p ys ∧ ∀ l, H l = none → Q (.ref l) (upd H l (.tup ys))) ∨ (SqT K H p ys ∧ Q (.ref p) H))) := vn1 fun θ H ih d e x Q h r he q => by
  obtain ⟨ds, e1, rfl⟩ := mapNone he
  obtain ⟨a, vs, rfl, hq, rs, ht⟩ := itemsOf_ok h r e1
  refine ⟨a, vs, rfl, ?_⟩
  rcases hq with hq | hq
  · exact .inl ⟨hq, fun l hl => q θ _ _ (.new hl) (h.new hl) (.tup (.of upd_same) (rs.mono (.new hl)))⟩
  · exact .inr ⟨hq, q θ H _ (.refl _ _) h (.tup hq rs)⟩
theorem vn_list : VN K w mg T fList (fun xs H Q => ∃ p ys, xs = [.ref p] ∧ (SqL K H p ys ∨ SqT K H p ys) ∧ ∀ l, H l = none → Q (.ref l) (upd H l (.lst ys))) := vn1 fun θ H ih d e x Q h r he q => by
  obtain ⟨ds, e1, rfl⟩ := mapNone he
  obtain ⟨a, vs, rfl, hq, rs, ht⟩ := itemsOf_ok h r e1
  exact ⟨a, vs, rfl, hq, fun l hl => q θ _ _ (.new hl) (h.new hl) (.lst (h.free_new hl) (.of upd_same) (rs.mono (.new hl)))⟩
theorem vn_listH : VN K w mg T fListH (fun xs H Q => ∃ p ys, xs = [.ref p] ∧ (SqL K H p ys ∨ SqT K H p ys) ∧ ∀ l, H l = none → Q (.ref l) (upd H l (.lst ys))) := by
  intro θ H ih as xs d ih' Q h1 h2 h3 h4
  unfold fListH at h3
  split at h3
  · rename_i a
    cases h2 with
    | cons ra rr =>
      cases rr
      obtain ⟨ds, e1, e2⟩ := mapNone h3
      cases e2
      obtain ⟨b, vs, rfl, hq, rs, ht⟩ := itemsOf_ok h1 ra e1
      refine ⟨b, vs, rfl, hq, fun l hl => h4 ⟨θ.h ++ [l], θ.b⟩ _ _ (.made hl) (h1.made hl (.lst upd_same (rs.mono (.made hl)))) (.obj ?_)⟩
      show (θ.h ++ [l])[ih.length]? = some l
      rw [← h1.len, List.getElem?_append_right (Nat.le_refl _)]
      simp
  · cases h3
theorem sortI_of {is ns : List Int} (p : ns.Perm is) (s : ns.Pairwise (· ≤ ·)) : ns = sortI is := by
  have h1 : (sortI is).Perm is := List.mergeSort_perm is _
  have h2 : (sortI is).Pairwise (· ≤ ·) := (List.pairwise_mergeSort (le := fun a b => decide (a ≤ b)) (fun a b c h1 h2 => by simp at h1 h2 ⊢; omega) (fun a b => by simp; omega) is).imp fun h => by simpa using h
  exact (p.trans h1.symm).eq_of_pairwise (le := (· ≤ ·)) (fun a b _ _ h1 h2 => Int.le_antisymm h1 h2) s h2
theorem vn_sortL : VN K w mg T fSortL (rSortedI K) := vn1 fun θ H ih d e x Q h r he q => by
  obtain ⟨is, e1, rfl⟩ := mapNone he
  obtain ⟨ds, e2, e3⟩ := bindNone e1
  obtain ⟨a, vs, rfl, hq, rs⟩ := listOf_ok h r e2
  rw [asInts_ok rs e3] at hq
  refine ⟨a, is, rfl, hq, fun ns' p h1 h2 hp => ?_⟩
  rw [sortI_of h1 h2]
  exact q θ _ _ (.new hp) (h.new hp) (.lst (h.free_new hp) (.of upd_same) (ints_rd _))
theorem vn_min2 : VN K w mg T fMin2 (fun xs H Q => ∃ i j, xs = [.int i, .int j] ∧ Q (.int (if j < i then j else i)) H) := by
  intro θ H ih as xs d ih' Q h1 h2 h3 h4
  unfold fMin2 at h3
  split at h3
  · rename_i i j
    cases h3
    cases h2 with
    | cons ra rr =>
      cases rr with
      | cons rb rr =>
        cases rr
        cases ra
        cases rb
        exact ⟨i, j, rfl, h4 θ H _ (.refl _ _) h1 (.int _)⟩
  · cases h3
end

/-! ### calls -/
section
variable {T : List (Addr × Str)} {X : Cx} {e : Expr} {es : List Expr} {ms : Env → M (List D)} {p pos : Pos} {x : Str} {id : String} {f : List D → M D} {r : List V → Hp → VK → Prop}
theorem se_callB (hv : VN X.K X.w X.mg T f r) (hc : CallR X (.builtin id) r) (hg : Gl X x) (hm : X.mg x = none) (hb : bootBuiltins x = some (.builtin id)) (ha : SA T X (e :: es) ms) (hn : x ≠ "__name__" := by decide) (hdb : (x == ("__debug__" : Str)) = false := by decide)
    (hs : starEach (e :: es) X.env = (false, eval e X.env) :: starEach es X.env := by rfl) (hpl : (backTo pos (starEach es X.env)).any (·.1) = false := by rfl) : SE T X (.Call (.Name x p) (e :: es) [] pos) (xArgs f ms) := (pe_callB hc hg hm hb ha hn hdb hs hpl).le (sim_args hv)
theorem se_callTy (hv : VN X.K X.w X.mg T f r) (hc : CallR X (.type id) r) (hg : Gl X x) (hm : X.mg x = none) (hb : bootBuiltins x = some (.type id)) (ha : SA T X (e :: es) ms) (hn : x ≠ "__name__" := by decide) (hdb : (x == ("__debug__" : Str)) = false := by decide)
    (hs : starEach (e :: es) X.env = (false, eval e X.env) :: starEach es X.env := by rfl) (hpl : (backTo pos (starEach es X.env)).any (·.1) = false := by rfl) : SE T X (.Call (.Name x p) (e :: es) [] pos) (xArgs f ms) := (pe_callTy hc hg hm hb ha hn hdb hs hpl).le (sim_args hv)
theorem se_len (hg : Gl X "len") (hm : X.mg "len" = none) (ha : SA T X [e] ms) (hs : starEach [e] X.env = (false, eval e X.env) :: starEach [] X.env := by rfl) (hpl : (backTo pos (starEach [] X.env)).any (·.1) = false := by rfl) : SE T X (.Call (.Name "len" p) [e] [] pos) (xArgs fLen ms) :=
  se_callB vn_len (call_len_seq.or (call_len_str.or call_lenD)) hg hm PySem.boot_len ha (hs := hs) (hpl := hpl)
theorem se_sum (hc : X.calm = true) (hg : Gl X "sum") (hm : X.mg "sum" = none) (ha : SA T X [e] ms) (hs : starEach [e] X.env = (false, eval e X.env) :: starEach [] X.env := by rfl) (hpl : (backTo pos (starEach [] X.env)).any (·.1) = false := by rfl) : SE T X (.Call (.Name "sum" p) [e] [] pos) (xArgs fSum ms) :=
  se_callB vn_sum (cr_sum hc) hg hm (by decide +kernel) ha (hs := hs) (hpl := hpl)
theorem se_all (hc : X.calm = true) (hg : Gl X "all") (hm : X.mg "all" = none) (ha : SA T X [e] ms) (hs : starEach [e] X.env = (false, eval e X.env) :: starEach [] X.env := by rfl) (hpl : (backTo pos (starEach [] X.env)).any (·.1) = false := by rfl) : SE T X (.Call (.Name "all" p) [e] [] pos) (xArgs fAll ms) :=
  se_callB vn_all (cr_all hc) hg hm (by decide +kernel) ha (hs := hs) (hpl := hpl)
theorem se_any (hc : X.calm = true) (hg : Gl X "any") (hm : X.mg "any" = none) (ha : SA T X [e] ms) (hs : starEach [e] X.env = (false, eval e X.env) :: starEach [] X.env := by rfl) (hpl : (backTo pos (starEach [] X.env)).any (·.1) = false := by rfl) : SE T X (.Call (.Name "any" p) [e] [] pos) (xArgs fAny ms) :=
  se_callB vn_any (cr_any hc) hg hm (by decide +kernel) ha (hs := hs) (hpl := hpl)
theorem se_minL (hc : X.calm = true) (hg : Gl X "min") (hm : X.mg "min" = none) (ha : SA T X [e] ms) (hs : starEach [e] X.env = (false, eval e X.env) :: starEach [] X.env := by rfl) (hpl : (backTo pos (starEach [] X.env)).any (·.1) = false := by rfl) : SE T X (.Call (.Name "min" p) [e] [] pos) (xArgs fMinL ms) :=
  se_callB vn_minL (cr_min hc) hg hm (by decide +kernel) ha (hs := hs) (hpl := hpl)
theorem se_min2 {e2 : Expr} (hc : X.calm = true) (hg : Gl X "min") (hm : X.mg "min" = none) (ha : SA T X [e, e2] ms) (hs : starEach [e, e2] X.env = (false, eval e X.env) :: starEach [e2] X.env := by rfl) (hpl : (backTo pos (starEach [e2] X.env)).any (·.1) = false := by rfl) : SE T X (.Call (.Name "min" p) [e, e2] [] pos) (xArgs fMin2 ms) :=
  se_callB vn_min2 (call_min2 hc) hg hm (by decide +kernel) ha (hs := hs) (hpl := hpl)
theorem se_abs (hg : Gl X "abs") (hm : X.mg "abs" = none) (ha : SA T X [e] ms) (hs : starEach [e] X.env = (false, eval e X.env) :: starEach [] X.env := by rfl) (hpl : (backTo pos (starEach [] X.env)).any (·.1) = false := by rfl) : SE T X (.Call (.Name "abs" p) [e] [] pos) (xArgs fAbs ms) :=
  se_callB vn_abs call_abs hg hm (by decide +kernel) ha (hs := hs) (hpl := hpl)
theorem se_sortL (hg : Gl X "sorted") (hm : X.mg "sorted" = none) (ha : SA T X [e] ms) (hs : starEach [e] X.env = (false, eval e X.env) :: starEach [] X.env := by rfl) (hpl : (backTo pos (starEach [] X.env)).any (·.1) = false := by rfl) : SE T X (.Call (.Name "sorted" p) [e] [] pos) (xArgs fSortL ms) :=
  se_callB vn_sortL cr_sortedI hg hm (by decide +kernel) ha (hs := hs) (hpl := hpl)
theorem se_int1 (hg : Gl X "int") (hm : X.mg "int" = none) (ha : SA T X [e] ms) (hs : starEach [e] X.env = (false, eval e X.env) :: starEach [] X.env := by rfl) (hpl : (backTo pos (starEach [] X.env)).any (·.1) = false := by rfl) : SE T X (.Call (.Name "int" p) [e] [] pos) (xArgs fInt ms) :=
  se_callTy vn_int call_int1 hg hm (by decide +kernel) ha (hs := hs) (hpl := hpl)
theorem se_tuple (hg : Gl X "tuple") (hm : X.mg "tuple" = none) (ha : SA T X [e] ms) (hs : starEach [e] X.env = (false, eval e X.env) :: starEach [] X.env := by rfl) (hpl : (backTo pos (starEach [] X.env)).any (·.1) = false := by rfl) : SE T X (.Call (.Name "tuple" p) [e] [] pos) (xArgs fTuple ms) :=
  se_callTy vn_tuple call_tuple_of hg hm (by decide +kernel) ha (hs := hs) (hpl := hpl)
theorem se_list (hg : Gl X "list") (hm : X.mg "list" = none) (ha : SA T X [e] ms) (hs : starEach [e] X.env = (false, eval e X.env) :: starEach [] X.env := by rfl) (hpl : (backTo pos (starEach [] X.env)).any (·.1) = false := by rfl) : SE T X (.Call (.Name "list" p) [e] [] pos) (xArgs fList ms) :=
  se_callTy vn_list call_list_of hg hm (by decide +kernel) ha (hs := hs) (hpl := hpl)
theorem se_listH (hg : Gl X "list") (hm : X.mg "list" = none) (ha : SA T X [e] ms) (hs : starEach [e] X.env = (false, eval e X.env) :: starEach [] X.env := by rfl) (hpl : (backTo pos (starEach [] X.env)).any (·.1) = false := by rfl) : SE T X (.Call (.Name "list" p) [e] [] pos) (xArgs fListH ms) :=
  se_callTy vn_listH call_list_of hg hm (by decide +kernel) ha (hs := hs) (hpl := hpl)
end
end Gh
end
section
set_option Elab.async false
set_option linter.all false
set_option maxRecDepth 100000
/-! t[::-1]. -/
namespace Gh
open PySem PySem.W PySem.Calls PyProof.Rows PyProof.V PySem.Spec
section
variable {prog : Program} {w : World} {A : Around} {E : Value → Shared → Prop} {s : Shared}
theorem adjust_rev (n : Nat) : Builtin.Slice.sliceAdjust none none (-1) (n : Int) = ((n : Int) - 1, -1) := by
  unfold Builtin.Slice.sliceAdjust
  simp
theorem places_rev (n : Nat) : Builtin.Slice.slicePlaces ((n : Int) - 1) (-1) (-1) = n := by
  unfold Builtin.Slice.slicePlaces
  simp
  omega
theorem fm_congr {α β : Type} {f g : α → Option β} : ∀ {l : List α}, (∀ a ∈ l, f a = g a) → l.filterMap f = l.filterMap g
  | [], _ => rfl
  | a :: l, h => by
    rw [List.filterMap_cons, List.filterMap_cons, h a (List.mem_cons_self ..), fm_congr fun b hb => h b (List.mem_cons_of_mem _ hb)]
theorem pick_rev (xs : Array Value) : ((List.range xs.size).filterMap fun (m : Nat) => xs[(((xs.size : Int) - 1) + (m : Int) * (-1)).toNat]?).toArray = xs.toList.reverse.toArray := by
  congr 1
  have e1 : (List.range xs.size).map (fun k => xs.size - 1 - k) = (List.range xs.size).reverse := krv_range xs.size
  have e2 : (List.range xs.size).filterMap (xs[·]?) = xs.toList := krv_all xs
  rw [← e2, ← List.filterMap_reverse, ← e1, List.filterMap_map]
  refine fm_congr fun k hk => ?_
  have := List.mem_range.mp hk
  show xs[(((xs.size : Int) - 1) + (k : Int) * (-1)).toNat]? = xs[xs.size - 1 - k]?
  congr 1
  omega
theorem getItem_tuple_rev {t sl : Addr} {items : Array Value} {vs : Value} {Q : Value → Shared → Prop} (ht : IsTup s.heap t items) (hs : s.heap.IsSliceOf sl .none .none vs) (ps : IsPart vs (some (-1)))
    (h : Q (.ref s.heap.objs.size) { s with heap := s.heap.push { cls := .type "tuple", data := .seq items.toList.reverse.toArray } })
    (hsz : items.size ≤ sizeLine) : wpAny (model prog w) A (getItem (.ref t) (.ref sl)) Q E s := by
  have htake : sizeOk (.seq items.toList.reverse.toArray) := by
    show items.toList.reverse.toArray.size ≤ sizeLine
    simpa using hsz
  obtain ⟨os, hos, hcs, hds⟩ := id hs
  have hTs : s.TypeIs (.ref sl) "slice" := ⟨os, hos, hcs⟩
  unfold getItem
  try with_reducible refine wpAny_holding ?_
  first | refine wpAny_bind (wpAny_pure ?_) | skip
  refine wpAny_bind (wpAny_sequenceKey ht.typeIs (by decide) ?_)
  refine wpAny_bind (wpAny_callSpecial?_slot (name := Str.ofString "__getitem__") ht.typeIs PyProof.Rows.slot_tuple_getitem
    (wpAny_call_entry PyProof.Rows.slot_tuple_getitem ht.typeIs entry_tuple_getitem ?_ (args_tuple_getitem _ _)))
  show wpAny _ _ (Builtin.Tuple.tupleItemsOf (.ref t) >>= _) _ _ s
  refine wpAny_bind (tupleItemsOf_ ht ?_)
  refine wpAny_bind (wpAny_typeOf hTs ?_)
  rw [if_pos (by decide)]
  have key : ∀ (A : Around) (E : Value → Shared → Prop), wpAny (model prog w) A (Builtin.Slice.sliceApplied (.ref sl) (pure (items.size : Int))) (fun r s' => r = ((items.size : Int) - 1, -1, items.size) ∧ s' = s) E s := by
    intro A E
    unfold Builtin.Slice.sliceApplied Builtin.Slice.sliceFields
    refine wpAny_bind (wpAny_bind (wpAny_field hos hds (x := .none) rfl (wpAny_bind (wpAny_field hos hds (x := .none) rfl (wpAny_bind (wpAny_field hos hds (x := vs) rfl (wpAny_pure ?_)))))))
    refine wpAny_bind (HT.slicePart_ ps ?_)
    show wpAny _ _ (if ((-1 : Int) == 0) = true then _ else _) _ _ s
    rw [if_neg (by decide)]
    refine wpAny_bind (HT.slicePart_ .none (wpAny_bind (HT.slicePart_ .none (wpAny_bind (wpAny_pure ?_)))))
    show wpAny _ _ (match Builtin.Slice.sliceAdjust none none (-1) (items.size : Int) with | (lo, hi) => pure (lo, (-1 : Int), Builtin.Slice.slicePlaces lo hi (-1))) _ _ s
    rw [adjust_rev]
    show wpAny _ _ (pure ((items.size : Int) - 1, (-1 : Int), Builtin.Slice.slicePlaces ((items.size : Int) - 1) (-1) (-1))) _ _ s
    rw [places_rev]
    exact wpAny_pure ⟨rfl, rfl⟩
  refine wpAny_bind (wpAny_mono (key _ _) (fun r s' hr => ?_) fun _ _ x => x)
  obtain ⟨rfl, rfl⟩ := hr
  have hno : ¬ (((items.size : Int) - 1 == 0 && (-1 : Int) == 1 && items.size == items.size) = true) := by
    intro q
    rw [Bool.and_eq_true, Bool.and_eq_true] at q
    exact absurd q.1.2 (by decide)
  show wpAny _ _ (if ((items.size : Int) - 1 == 0 && (-1 : Int) == 1 && items.size == items.size) = true then _ else _) _ _ _
  rw [if_neg hno, pick_rev]
  first
    | exact wpAny_bind (m := Builtin.Tuple.tupleExact _) (wpAny_newObj_type (wpAny_pure ⟨_, rfl, wpAny_pure h⟩) htake)
    | exact wpAny_bind (m := Builtin.Tuple.tupleExact _) (wpAny_newObj_type (wpAny_bind (wpAny_pure (wpAny_pure ⟨_, rfl, wpAny_pure h⟩))) htake)
    | exact wpAny_bind (wpAny_bind (m := Builtin.Tuple.tupleExact _) (wpAny_newObj_type (wpAny_pure (wpAny_pure ⟨_, rfl, wpAny_pure h⟩)) htake))
    | exact wpAny_bind (wpAny_bind (m := Builtin.Tuple.tupleExact _) (wpAny_newObj_type (wpAny_pure ⟨_, rfl, wpAny_pure h⟩) htake))
end
end Gh
namespace Gh
open PySem PySem.Spec PyProof.Rows L2

/-! ### slices -/
def simO (K : PySem.W.Frag) (w : World) (mg : Str → Option Value) (T : List (Addr × Str)) (m : Env → IH → Option (Option Int × IH)) : TO := fun σ H Q =>
  ∃ θ ρ ih o ih', RH K w mg T θ H ih ∧ RE K w θ H ρ σ ∧ m ρ ih = some (o, ih') ∧ ∀ θ' H', Ev θ H θ' H' → RH K w mg T θ' H' ih' → Q o H'
abbrev SO (T : List (Addr × Str)) (X : Cx) (e : Option Expr) (m : Env → IH → Option (Option Int × IH)) : Prop := PO X e (simO X.K X.w X.mg T m)
theorem _root_.L2.PO.le {X : Cx} {e : Option Expr} {t u : TO} (h : PO X e t) (l : ∀ σ H Q, u σ H Q → t σ H Q) : PO X e u := ⟨fun pins s σ H Q I q => h.run pins s σ H Q I (l σ H Q q)⟩
def xRev (m : Env → M D) : Env → M D := fun ρ ih => (m ρ ih).bind fun p => match p.1 with
  | .tup ds => some (.tup ds.reverse, p.2)
  | _ => none
section
variable {T : List (Addr × Str)} {X : Cx} {e : Expr} {m : Env → M D} {pos p2 : Pos} {lo hi : Option Expr} {ml mh : Env → IH → Option (Option Int × IH)}
theorem so_none : SO T X none xNoPart := PO.le po_none fun σ H Q q => by
  obtain ⟨θ, ρ, ih, o, ih', h1, h2, h3, h4⟩ := q
  cases h3
  exact h4 θ H (.refl _ _) h1
theorem so_some (h : SE T X e m) : SO T X (some e) (xPart m) := PO.le (po_some h) fun σ H Q q => by
  obtain ⟨θ, ρ, ih, o, ih', h1, h2, h3, h4⟩ := q
  obtain ⟨p, e1, e2⟩ := bindNone h3
  obtain ⟨i, e3, e4⟩ := mapNone e2
  cases e4
  exact ⟨θ, ρ, ih, _, _, h1, h2, e1, fun θ1 H1 v ev q1 r1 => ⟨i, asInt_ok r1 e3, h4 θ1 H1 ev q1⟩⟩
theorem cutD_whole {ds : List D} {lo hi : Option Int} (h : HT.sIx ds.length 0 lo = 0 ∧ HT.sIx ds.length ds.length hi = ds.length) : cutD ds lo hi = ds := by
  unfold cutD
  rw [h.1, h.2]
  simp
theorem se_sl (he : SE T X e m) (hl : SO T X lo ml) (hh : SO T X hi mh) : SE T X (.Subscript e (.Slice lo hi none p2) pos) (xSl m ml mh) := (pe_slice sl_tupA he hl hh).le fun σ H Q q => by
  obtain ⟨θ, ρ, ih, d, ih', h1, h2, h3, h4⟩ := q
  obtain ⟨p, e1, h3⟩ := bindNone h3
  obtain ⟨l, e2, h3⟩ := bindNone h3
  obtain ⟨h, e3, h3⟩ := bindNone h3
  refine ⟨θ, ρ, ih, _, _, h1, h2, e1, fun θ1 H1 v ev q1 r1 => ⟨θ1, ρ, p.2, _, _, q1, h2.mono ev, e2, fun θ2 H2 ev2 q2 => ⟨θ2, ρ, l.2, _, _, q2, h2.mono (ev.trans ev2), e3, fun θ3 H3 ev3 q3 => ?_⟩⟩⟩
  have r3 := r1.mono (ev2.trans ev3)
  have evA := ev.trans (ev2.trans ev3)
  obtain ⟨d1, ih1⟩ := p
  cases r3 with
  | @tup ds a vs sa ra =>
    cases h3
    have hlen := ra.length
    refine ⟨a, vs, rfl, sa, fun hw => ?_, fun _ t ht => ?_⟩
    · rw [hlen] at hw
      rw [cutD_whole hw] at h4
      exact h4 θ3 H3 _ evA q3 (.tup sa ra)
    · refine h4 θ3 _ _ (evA.trans (.new ht)) (q3.new ht) (.tup (.of upd_same) ?_)
      unfold cutD cutV
      rw [hlen]
      exact ((ra.drop _).take _).mono (.new ht)
  | _ => cases h3
def tRevT (K : PySem.W.Frag) (te : TE) : TE := fun σ H Q => te σ H fun x H1 => ∃ a xs, x = .ref a ∧ SqT K H1 a xs ∧ ∀ p, H1 p = none → Q (.ref p) (upd H1 p (.tup xs.reverse))
theorem pe_revT {te : TE} {k : Nat} {p1 p3 : Pos} (he : PE X e te) : PE X (.Subscript e (.Slice none none (some (.UnaryOp .USub (.Constant (.int 1) k p1) p2)) p3) pos) (tRevT X.K te) := by
  refine ⟨fun pins s σ H Q I h => ?_⟩
  refine Subscript_ (thn (he.run pins s σ H _ I h) fun v s1 ⟨x, H1, I1, r1, q1⟩ => ?_)
  obtain ⟨a, xs, ex, hx, q⟩ := q1
  subst ex
  cases r1
  have hst : PO X (some (.UnaryOp .USub (.Constant (.int 1) k p1) p2)) (tPart (tUn (rU fun i => .int (-i)) (tC (.int 1)))) := po_some (pe_un un_neg pe_int)
  refine wpAny_Slice (thn (po_none.run pins s1 σ H1 (fun o H2 => o = none ∧ H2 = H1) I1 ⟨rfl, rfl⟩) fun vl s2 ⟨l, H2, I2, pl, el, e2⟩ => ?_)
  subst el e2
  refine thn (po_none.run pins s2 σ H2 (fun o H3 => o = none ∧ H3 = H2) I2 ⟨rfl, rfl⟩) fun vu s3 ⟨u, H3, I3, pu, eu, e3⟩ => ?_
  subst eu e3
  refine thn (hst.run pins s3 σ H3 (fun o H4 => o = some (-1) ∧ H4 = H3) I3 ⟨1, rfl, -1, rfl, rfl, rfl⟩) fun vs s4 ⟨o, H4, I4, ps, eo, e4⟩ => ?_
  subst eo e4
  have I5 : Inv X pins σ H4 { s4 with heap := s4.heap.push { cls := .type "slice", data := .fields #[vl, vu, vs] } } := I4.kept (t' := s4.toks) fun b ob q => Heap.get?_push_of_some _ q
  obtain ⟨its, r, ht, hz⟩ := I5.tuple hx
  have hlen := r.length
  cases pl
  cases pu
  show wpAny (model X.prog X.w) X.A (subscriptTail e (.Slice none none (some (.UnaryOp .USub (.Constant (.int 1) k p1) p2)) p3) (.ref a) (.ref s4.heap.objs.size)) (EP X pins σ Q) X.xe { s4 with heap := s4.heap.push { cls := .type "slice", data := .fields #[.none, .none, vs] } }
  refine tail_any (ops := [.ref a, .ref s4.heap.objs.size]) ht.typeIs PyProof.Rows.slot_tuple_getitem.lookup ?_ (by with_unfolding_all rfl)
  refine getItem_tuple_rev ht (Heap.IsSliceOf.new _ .none .none vs) ps ?_ (by rw [List.size_toArray]; omega)
  refine ⟨.ref _, _, I5.laid (t' := s4.toks) (o := .tup xs.reverse) (fun b ob q => Heap.get?_push_of_some _ q) (Nat.le_refl _) ?_, rfl, q _ (I5.hok.fresh (Nat.le_refl _))⟩
  exact ⟨by rw [List.length_reverse]; exact hz, its.reverse, r.reverse, ⟨_, Heap.get?_push_size _ rfl, rfl, 0, rfl⟩⟩
theorem se_rev {k : Nat} {p1 p3 : Pos} (he : SE T X e m) : SE T X (.Subscript e (.Slice none none (some (.UnaryOp .USub (.Constant (.int 1) k p1) p2)) p3) pos) (xRev m) := (pe_revT he).le fun σ H Q q => by
  obtain ⟨θ, ρ, ih, d, ih', h1, h2, h3, h4⟩ := q
  obtain ⟨p, e1, h3⟩ := bindNone h3
  refine ⟨θ, ρ, ih, _, _, h1, h2, e1, fun θ1 H1 v ev q1 r1 => ?_⟩
  obtain ⟨d1, ih1⟩ := p
  cases r1 with
  | tup sa ra =>
    cases h3
    exact ⟨_, _, rfl, sa, fun t ht => h4 θ1 _ _ (ev.trans (.new ht)) (q1.new ht) (.tup (.of upd_same) (ra.reverse.mono (.new ht)))⟩
  | _ => cases h3

/-! ### subscripts -/
theorem atI_rd {K : PySem.W.Frag} {w : World} {θ : Th} {H : Hp} {ds : List D} {vs : List V} {i : Int} {d : D} (r : RDs K w θ H ds vs) (h : atD ds i = some d) : ∃ v, atI vs i = some v ∧ RD K w θ H d v := by
  unfold atD atI at h
  obtain ⟨j, h1, h2⟩ := bindNone h
  obtain ⟨v, h3, h4⟩ := r.get h2
  exact ⟨v, by unfold atI; rw [r.length, h1]; exact h3, h4⟩
theorem v2_ix {K : PySem.W.Frag} {w : World} {mg : Str → Option Value} : V2 K w mg T fIx (fun x y H Q => rIx K x y H Q ∨ rIxD K w x y H Q) := by
  intro θ H ih a b x y d ih' Q h1 h2 h3 h4 h5
  cases h2 with
  | tup sa ra =>
    obtain ⟨i, e1, e2⟩ := bindNone h4
    obtain ⟨d', e3, e4⟩ := mapNone e2
    cases e4
    obtain ⟨v, e5, rv⟩ := atI_rd ra e3
    exact .inl (.inr (.inl ⟨_, _, i, v, rfl, asInt_ok h3 e1, sa, e5, h5 θ H _ (.refl _ _) h1 rv⟩))
  | lst f sa ra =>
    obtain ⟨i, e1, e2⟩ := bindNone h4
    obtain ⟨d', e3, e4⟩ := mapNone e2
    cases e4
    obtain ⟨v, e5, rv⟩ := atI_rd ra e3
    exact .inl (.inl ⟨_, _, i, v, rfl, asInt_ok h3 e1, .inl sa, e5, h5 θ H _ (.refl _ _) h1 rv⟩)
  | str z =>
    unfold fIx at h4
    simp only at h4
    split at h4
    · rename_i hz
      obtain ⟨i, e1, e2⟩ := bindNone h4
      obtain ⟨c, e3, e4⟩ := mapNone e2
      cases e4
      exact .inl (.inr (.inr ⟨z, i, c, rfl, asInt_ok h3 e1, hz, e3, h5 θ H _ (.refl _ _) h1 (.str _)⟩))
    · cases h4
  | dct f z1 z2 z3 z4 r => exact .inr (v2_ixD θ H ih _ b _ y d ih' Q h1 (.dct f z1 z2 z3 z4 r) h3 h4 h5)
  | @obj n p hn =>
    unfold fIx at h4
    simp only at h4
    split at h4
    · rename_i ds hk
      obtain ⟨i, e1, e2⟩ := bindNone h4
      obtain ⟨d', e3, e4⟩ := mapNone e2
      cases e4
      cases h1.at_ n p _ hn hk with
      | lst z ra =>
        obtain ⟨v, e5, rv⟩ := atI_rd ra e3
        exact .inl (.inl ⟨_, _, i, v, rfl, asInt_ok h3 e1, .of z, e5, h5 θ H _ (.refl _ _) h1 rv⟩)
    · exact .inr (v2_ixD θ H ih _ b _ y d ih' Q h1 (.obj hn) h3 h4 h5)
  | _ => cases h4
theorem se_ix {b : Expr} {mb : Env → M D} (hu : X.A.units + 64 < cLine) (ha : SE T X e m) (hb : SE T X b mb) (hs : PlainIx b) : SE T X (.Subscript e b pos) (xBin fIx m mb) := (pe_ix (ix_seq.or (ix_dictA hu)) ha hb hs).le (sim_bin v2_ix)

/-! ### isinstance(x, int) -/
theorem isInt_ty {K : PySem.W.Frag} {w : World} {θ : Th} {H : Hp} {d : D} {x : V} {b : Bool} {ih ih' : IH} (r : RD K w θ H d x) (h : fIsInt d ih = some (.bl b, ih')) : ih' = ih ∧ ∃ t, TyX K H x (.type t) ∧ kitB t "int" = some b := by
  cases r with
  | int i => cases h; exact ⟨rfl, "int", .base (.int i), by decide +kernel⟩
  | bl i => cases h; exact ⟨rfl, "bool", .base (.bl i), by decide +kernel⟩
  | str i => cases h; exact ⟨rfl, "str", .base (.str i), by decide +kernel⟩
  | non => cases h; exact ⟨rfl, "NoneType", .base .non, by decide +kernel⟩
  | tup sa ra =>
    cases h
    refine ⟨rfl, "tuple", ?_, by decide +kernel⟩
    rcases sa with (z | ⟨o, z⟩) | ⟨o, its, n, z1, z2, _⟩
    · exact .base (.tup z)
    · exact .fTuple z
    · exact .kTuple z1 z2
  | _ => cases h
theorem fIsInt_bl {d e : D} {ih ih' : IH} (h : fIsInt d ih = some (e, ih')) : ∃ b, e = .bl b := by
  unfold fIsInt at h
  split at h <;> first | (cases h; exact ⟨_, rfl⟩) | cases h
theorem se_isInt {p pt : Pos} (hg : Gl X "isinstance") (hm : X.mg "isinstance" = none) (hgi : Gl X "int") (hmi : X.mg "int" = none) (he : SE T X e m)
    (hs : starEach [e, .Name "int" pt] X.env = (false, eval e X.env) :: starEach [.Name "int" pt] X.env := by rfl) (hs2 : starEach [.Name "int" pt] X.env = (false, eval (.Name "int" pt) X.env) :: starEach [] X.env := by rfl) (hpl : (backTo pos (starEach [.Name "int" pt] X.env)).any (·.1) = false := by rfl) :
    SE T X (.Call (.Name "isinstance" p) [e, .Name "int" pt] [] pos) (xUn fIsInt m) := by
  have hint : PE X (.Name "int" pt) (tC (.ty "int")) := pe_bltn hgi hmi (by decide +kernel : bootBuiltins "int" = some (.type "int")) rfl
  refine (pe_callB call_isi hg hm (by decide +kernel) (pa_cons he (pa_cons hint pa_nil hs2) hs) (by decide) (by decide) hs hpl).le fun σ H Q q => ?_
  obtain ⟨θ, ρ, ih, d, ih', h1, h2, h3, h4⟩ := q
  obtain ⟨p, e1, e2⟩ := bindNone h3
  refine ⟨θ, ρ, ih, _, _, h1, h2, e1, fun θ1 H1 v ev q1 r1 => ?_⟩
  obtain ⟨b, rfl⟩ := fIsInt_bl e2
  obtain ⟨e3, t, ty, hk⟩ := isInt_ty r1 e2
  rw [e3] at h4
  exact ⟨v, .ty "int", .type t, .type "int", b, rfl, .ty _, ty, kit_ty hk, h4 θ1 H1 _ ev q1 (.bl b)⟩
end

/-! ### methods of lists and dicts -/
def fAppend (o : D) : List D → M D := fun ds ih => match o, ds with
  | .obj n, [d] => match ih[n]? with
    | some (.lst xs) => if xs.length < sizeLine then some (.non, ih.set n (.lst (xs ++ [d]))) else none
    | _ => none
  | _, _ => none
def fPop (o : D) : List D → M D := fun ds ih => match o, ds with
  | .obj n, [] => match ih[n]? with
    | some (.lst xs) => (xs[xs.length - 1]?).map fun d => (d, ih.set n (.lst xs.dropLast))
    | _ => none
  | .obj n, [.int i] => match ih[n]? with
    | some (.lst xs) => if -(2 ^ 63) ≤ i ∧ i < 2 ^ 63 then (seqIndex? i xs.length).bind fun k => (xs[k]?).map fun d => (d, ih.set n (.lst (xs.eraseIdx k))) else none
    | _ => none
  | _, _ => none
def fExtend (o : D) : List D → M D := fun ds ih => match o, ds with
  | .obj n, [d] => match ih[n]? with
    | some (.lst xs) => (itemsOf d ih).bind fun ys => if d = .obj n then none else if xs.length + ys.length ≤ sizeLine then some (.non, ih.set n (.lst (xs ++ ys))) else none
    | _ => none
  | _, _ => none
def fGet (o : D) : List D → M D := fun ds ih => (getKvs o ih).bind fun kvs => match ds with
  | [a] => (hkey a).map fun k => ((dlook kvs k).getD .non, ih)
  | [a, d] => (hkey a).map fun k => ((dlook kvs k).getD d, ih)
  | _ => none
def fSetd (o : D) : List D → M D := fun ds ih => match o, ds with
  | .obj n, [a, d] => match ih[n]? with
    | some (.dct kvs) => (hkey a).bind fun k => match dlook kvs k with
      | some d' => some (d', ih)
      | none => if kvs.length < sizeLine then some (d, ih.set n (.dct (dput kvs a k d))) else none
    | _ => none
  | _, _ => none
def xMeth (f : D → List D → M D) (mo : Env → M D) (ms : Env → M (List D)) : Env → M D := fun ρ ih => (mo ρ ih).bind fun p => (ms ρ p.2).bind fun q => f p.1 q.1 q.2
section
variable {K : PySem.W.Frag} {w : World} {mg : Str → Option Value} {T : List (Addr × Str)}
def VM (K : PySem.W.Frag) (w : World) (mg : Str → Option Value) (T : List (Addr × Str)) (f : D → List D → M D) (r : V → List V → Hp → VK → Prop) : Prop :=
  ∀ (θ : Th) (H : Hp) (ih : IH) (o : D) (x : V) (as : List D) (xs : List V) (d : D) (ih' : IH) (Q : VK), RH K w mg T θ H ih → RD K w θ H o x → RDs K w θ H as xs → f o as ih = some (d, ih') →
    (∀ θ' H' v, Ev θ H θ' H' → RH K w mg T θ' H' ih' → RD K w θ' H' d v → Q v H') → r x xs H Q
/-- the type that the receiver has ahead of the arguments, and what the method asks -/
theorem sim_meth {f : D → List D → M D} {r : V → List V → Hp → VK → Prop} {mo : Env → M D} {ms : Env → M (List D)} {TY : V → Hp → Prop} (hf : VM K w mg T f r)
    (ht : ∀ (θ : Th) (H : Hp) (ih ih1 : IH) (ρ : Env) (o : D) (x : V) (qs : List D × IH) (res : D × IH), RH K w mg T θ H ih → RD K w θ H o x → ms ρ ih = some qs → f o qs.1 qs.2 = some res → TY x H)
    (σ : L2.St) (H : Hp) (Q : VK) (h : simE K w mg T (xMeth f mo ms) σ H Q) : tBMX TY r (simE K w mg T mo) (simA K w mg T ms) σ H Q := by
  obtain ⟨θ, ρ, ih, d, ih', h1, h2, h3, h4⟩ := h
  obtain ⟨p, e1, h3⟩ := bindNone h3
  obtain ⟨q, e2, h3⟩ := bindNone h3
  refine ⟨θ, ρ, ih, _, _, h1, h2, e1, fun θ1 H1 v ev q1 r1 => ⟨ht θ1 H1 p.2 p.2 ρ _ v q (d, ih') q1 r1 e2 h3, θ1, ρ, p.2, _, _, q1, h2.mono ev, e2, fun θ2 H2 vs ev2 q2 r2 => ?_⟩⟩
  exact hf θ2 H2 q.2 p.1 v q.1 vs d ih' Q q2 (r1.mono ev2) r2 h3 fun θ3 H3 z ev3 => h4 θ3 H3 z (ev.trans (ev2.trans ev3))
end
end Gh
end
section
set_option Elab.async false
set_option linter.all false
set_option maxRecDepth 100000
namespace PySem.Gh
open PySem.SeqAt PySem.AutoSeq1
open PySem.MeetsSeq PySem.MeetsSeq2 PySem.MeetsSeq3
theorem extend_tup (l : Addr) (items : Array Value) (n : Nat) (b : Addr) (items2 : Array Value) (n2 : Nat) (dd2 : Option Addr) (sl2 : Array (Option Value)) (hs0 : ¬(!items.isEmpty && Builtin.List.listTooLong (items.size + items2.size)) = true) (hs1 : items.size ≤ sizeLine) (hs2 : items.size + items2.size ≤ sizeLine + 1) :
    Meets (Builtin.«list.extend» ⟨[.ref l, .ref b], []⟩) (fun _ R s => s.heap.get? l = some { cls := .type "list", dict := none, data := .seq items n, slots := #[] } ∧ s.heap.get? b = some { cls := .type "tuple", dict := dd2, data := .seq items2 n2, slots := sl2 } ∧ R (.ok (.ret Value.none)) { s with heap := s.heap.update l (Obj.mapSeq fun x => x ++ items2), toks := s.toks }) :=
  .of_wp fun prog w A R s h => by
    obtain ⟨hp, g, d, tk, os⟩ := s; obtain ⟨hl, hb, h⟩ := h; have f1 := idx_int; have f2 := sub_tuple_tuple; have f3 := sub_list_list; have f4 := sub_tuple_list; have f5 := sub_list_tuple;
    have hz' : (items ++ items2).size ≤ sizeLine + 1 := by rw [Array.size_append]; exact hs2
    wp_walk using (wpAny_updateSeq hl rfl (hz := hs1) (_hz' := hz')), wpAny_loadPart' hl, wpAny_loadPart' hb; exact ⟨_, rfl, h⟩
end PySem.Gh

namespace Gh
open PySem PySem.Spec PyProof.Rows L2
def isLstH (d : D) (ih : IH) : Bool := match d with
  | .obj n => match ih[n]? with
    | some (.lst _) => true
    | _ => false
  | _ => false
def isDctA (d : D) (ih : IH) : Bool := (getKvs d ih).isSome
def xMethC (ck : D → IH → Bool) (f : D → List D → M D) (mo : Env → M D) (ms : Env → M (List D)) : Env → M D := fun ρ ih => (mo ρ ih).bind fun p => if ck p.1 p.2 = true then (ms ρ p.2).bind fun q => f p.1 q.1 q.2 else none
def tyL (x : V) (H : Hp) : Prop := ∃ p xs, x = .ref p ∧ H p = some (.lst xs)
section
variable {K : PySem.W.Frag} {w : World} {mg : Str → Option Value} {T : List (Addr × Str)}
theorem sim_methC {f : D → List D → M D} {r : V → List V → Hp → VK → Prop} {ck : D → IH → Bool} {mo : Env → M D} {ms : Env → M (List D)} {TY : V → Hp → Prop} (hf : VM K w mg T f r)
    (ht : ∀ (θ : Th) (H : Hp) (ih : IH) (o : D) (x : V), RH K w mg T θ H ih → RD K w θ H o x → ck o ih = true → TY x H)
    (σ : L2.St) (H : Hp) (Q : VK) (h : simE K w mg T (xMethC ck f mo ms) σ H Q) : tBMX TY r (simE K w mg T mo) (simA K w mg T ms) σ H Q := by
  obtain ⟨θ, ρ, ih, d, ih', h1, h2, h3, h4⟩ := h
  obtain ⟨p, e1, h3⟩ := bindNone h3
  split at h3
  · rename_i hck
    obtain ⟨q, e2, h3⟩ := bindNone h3
    refine ⟨θ, ρ, ih, _, _, h1, h2, e1, fun θ1 H1 v ev q1 r1 => ⟨ht θ1 H1 p.2 _ v q1 r1 hck, θ1, ρ, p.2, _, _, q1, h2.mono ev, e2, fun θ2 H2 vs ev2 q2 r2 => ?_⟩⟩
    exact hf θ2 H2 q.2 p.1 v q.1 vs d ih' Q q2 (r1.mono ev2) r2 h3 fun θ3 H3 z ev3 => h4 θ3 H3 z (ev.trans (ev2.trans ev3))
  · cases h3
theorem ckL_ok (θ : Th) (H : Hp) (ih : IH) (o : D) (x : V) (h : RH K w mg T θ H ih) (r : RD K w θ H o x) (c : isLstH o ih = true) : tyL x H := by
  cases r with
  | @obj n p hn =>
    unfold isLstH at c
    simp only at c
    split at c
    · rename_i ds hk
      cases h.at_ n p _ hn hk with
      | lst z r => exact ⟨p, _, rfl, z⟩
    · cases c
  | _ => cases c
theorem tyL_ok {X : Cx} : TyOk X "list" tyL := by
  intro pins s σ H x v I r h
  obtain ⟨p, xs, rfl, hp⟩ := h
  cases r
  obtain ⟨_, its, n, _, e⟩ := I.hok p _ hp
  exact ⟨⟨_, e, rfl⟩, fun a ea => by cases ea; exact ⟨_, e, rfl⟩⟩
theorem ckD_ok {X : Cx} (θ : Th) (H : Hp) (ih : IH) (o : D) (x : V) (h : RH X.K X.w X.mg T θ H ih) (r : RD X.K X.w θ H o x) (c : isDctA o ih = true) : tyD X x H := by
  unfold isDctA at c
  cases e : getKvs o ih with
  | none => rw [e] at c; cases c
  | some kvs =>
    obtain ⟨a, ys, rfl, hD, _⟩ := getKvs_dh h r e
    exact ⟨a, ys, rfl, hD⟩
theorem vm_append : VM K w mg T fAppend rAppend := by
  intro θ H ih o x as xs d ih' Q h1 h2 h3 h4 h5
  unfold fAppend at h4
  split at h4
  · rename_i n d0
    split at h4
    · rename_i ds hk
      split at h4
      · rename_i hz
        cases h4
        cases h2 with
        | @obj _ p hn =>
          cases h3 with
          | @cons _ v0 _ _ ra rr =>
            cases rr
            cases h1.at_ n p _ hn hk with
            | @lst _ vs z r =>
              refine ⟨p, vs, _, rfl, rfl, z, by rw [r.length]; exact hz, ?_⟩
              have ev : Ev θ H θ (upd H p (.lst (vs ++ [v0]))) := Ev.set (o := .lst (vs ++ [v0])) (List.mem_of_getElem? hn) z rfl rfl
              obtain ⟨s1, s2⟩ := h1.set (o := .lst (ds ++ [d0])) hn z rfl (.lst upd_same ((r.append (.cons ra .nil)).mono ev))
              exact h5 θ _ _ s2 s1 .non
      · cases h4
    · cases h4
  · cases h4
theorem vm_pop : VM K w mg T fPop (fun x xs H Q => rPop x xs H Q ∨ rPopAt x xs H Q) := by
  intro θ H ih o x as xs d ih' Q h1 h2 h3 h4 h5
  unfold fPop at h4
  split at h4
  · rename_i n
    split at h4
    · rename_i ds hk
      obtain ⟨d0, e1, e2⟩ := mapNone h4
      cases e2
      cases h2 with
      | @obj _ p hn =>
        cases h3
        cases h1.at_ n p _ hn hk with
        | @lst _ vs z r =>
          have e1' := e1
          rw [← r.length] at e1'
          obtain ⟨v, hv, rv⟩ := r.get e1'
          have hdl : RDs K w θ H ds.dropLast vs.dropLast := by
            rw [List.dropLast_eq_take, List.dropLast_eq_take, r.length]
            exact r.take _
          have ev : Ev θ H θ (upd H p (.lst vs.dropLast)) := Ev.set (o := .lst vs.dropLast) (List.mem_of_getElem? hn) z rfl rfl
          obtain ⟨s1, s2⟩ := h1.set (o := .lst ds.dropLast) hn z rfl (.lst upd_same (hdl.mono ev))
          exact .inl ⟨p, vs, v, rfl, rfl, z, hv, h5 θ _ _ s2 s1 (rv.mono ev)⟩
    · cases h4
  · rename_i n i
    split at h4
    · rename_i ds hk
      split at h4
      · rename_i hb
        obtain ⟨k, e1, e2⟩ := bindNone h4
        obtain ⟨d0, e3, e4⟩ := mapNone e2
        cases e4
        cases h2 with
        | @obj _ p hn =>
          cases h3 with
          | cons ra rr =>
            cases rr
            cases ra
            cases h1.at_ n p _ hn hk with
            | @lst _ vs z r =>
              obtain ⟨v, hv, rv⟩ := r.get e3
              have her : RDs K w θ H (ds.eraseIdx k) (vs.eraseIdx k) := by
                rw [List.eraseIdx_eq_take_drop_succ, List.eraseIdx_eq_take_drop_succ]
                exact (r.take _).append (r.drop _)
              have ev : Ev θ H θ (upd H p (.lst (vs.eraseIdx k))) := Ev.set (o := .lst (vs.eraseIdx k)) (List.mem_of_getElem? hn) z rfl rfl
              obtain ⟨s1, s2⟩ := h1.set (o := .lst (ds.eraseIdx k)) hn z rfl (.lst upd_same (her.mono ev))
              exact .inr ⟨p, vs, i, k, v, rfl, rfl, z, hb.1, hb.2, by rw [r.length]; exact e1, hv, h5 θ _ _ s2 s1 (rv.mono ev)⟩
      · cases h4
    · cases h4
  · cases h4
def rExtA (K : PySem.W.Frag) : V → List V → Hp → VK → Prop := fun x vs H Q => ∃ l b xs zs, x = .ref l ∧ vs = [.ref b] ∧ H l = some (.lst xs) ∧ (Rd H b (.lst zs) ∨ SqT K H b zs) ∧ xs.length + zs.length ≤ sizeLine ∧ Q .non (upd H l (.lst (xs ++ zs)))
theorem mt_extA {X : Cx} : MtR X "list.extend" (rExtA X.K) := by
  intro pins s σ H x vs v us Q I rx rv h
  obtain ⟨l, b, xs, zs, rfl, rfl, hH, hB, hz, q⟩ := h
  cases rx
  obtain ⟨u, rfl, ru⟩ := rv.one
  cases ru
  obtain ⟨z, its, n, r, hl, e⟩ := I.lstM hH
  rcases hB with hB | hB
  · obtain ⟨z2, its2, n2, r2, e2⟩ := hB.ok I.hok
    have hl2 := r2.length
    have hsz : its.toArray.size + its2.toArray.size ≤ sizeLine := by rw [List.size_toArray, List.size_toArray]; omega
    have hlong : ¬ (!its.toArray.isEmpty && Builtin.List.listTooLong (its.toArray.size + its2.toArray.size)) = true := by
      rw [notLongL hsz, Bool.and_false]
      exact Bool.false_ne_true
    refine PySem.call_meets PySem.F.slot_list_extend ⟨_, e, rfl⟩ PySem.F.entry_list_extend (PySem.F.args_list_extend_2 _ _)
      (AutoSeq1.list_extend_list_list_0 l its.toArray n b its2.toArray n2 hlong (by rw [List.size_toArray]; omega) (by omega)) ⟨e, e2, ?_⟩
    refine ⟨.non, _, I.lset (its' := its ++ its2) hH e (by simp) (r.append r2) ?_, rfl, q⟩
    rw [List.length_append]
    omega
  · obtain ⟨its2, r2, ⟨⟨cls, dd, data, sl⟩, ho2, hc2, n2, hd2⟩, _⟩ := I.tuple hB
    simp only at hc2 hd2
    subst hc2 hd2
    have hl2 := r2.length
    have hsz : its.toArray.size + its2.toArray.size ≤ sizeLine := by rw [List.size_toArray, List.size_toArray]; omega
    have hlong : ¬ (!its.toArray.isEmpty && Builtin.List.listTooLong (its.toArray.size + its2.toArray.size)) = true := by
      rw [notLongL hsz, Bool.and_false]
      exact Bool.false_ne_true
    refine PySem.call_meets PySem.F.slot_list_extend ⟨_, e, rfl⟩ PySem.F.entry_list_extend (PySem.F.args_list_extend_2 _ _)
      (PySem.Gh.extend_tup l its.toArray n b its2.toArray n2 dd sl hlong (by rw [List.size_toArray]; omega) (by omega)) ⟨e, ho2, ?_⟩
    refine ⟨.non, _, I.lset (its' := its ++ its2) hH e (by simp) (r.append r2) ?_, rfl, q⟩
    rw [List.length_append]
    omega
theorem vm_extend : VM K w mg T fExtend (rExtA K) := by
  intro θ H ih o x as xs d ih' Q h1 h2 h3 h4 h5
  unfold fExtend at h4
  split at h4
  · rename_i n d0
    split at h4
    · rename_i ds hk
      obtain ⟨ys, e1, h4⟩ := bindNone h4
      split at h4
      · cases h4
      · rename_i hne
        split at h4
        · rename_i hz
          cases h4
          cases h2 with
          | @obj _ p hn =>
            cases h3 with
            | @cons _ v0 _ _ ra rr =>
              cases rr
              cases h1.at_ n p _ hn hk with
              | @lst _ vs z r =>
                have key : ∃ b zs, v0 = V.ref b ∧ (Rd H b (.lst zs) ∨ SqT K H b zs) ∧ RDs K w θ H ys zs := by
                  cases ra with
                  | tup a r => cases e1; exact ⟨_, _, rfl, .inr a, r⟩
                  | lst a b r => cases e1; exact ⟨_, _, rfl, .inl b, r⟩
                  | @obj m a hm =>
                    unfold itemsOf at e1
                    simp only at e1
                    split at e1
                    · rename_i ds' hk'
                      cases e1
                      cases h1.at_ m a _ hm hk' with
                      | lst z r => exact ⟨_, _, rfl, .inl (.inl z), r⟩
                    · cases e1
                  | _ => cases e1
                obtain ⟨b, zs, rfl, hb, rz⟩ := key
                have ev : Ev θ H θ (upd H p (.lst (vs ++ zs))) := Ev.set (o := .lst (vs ++ zs)) (List.mem_of_getElem? hn) z rfl rfl
                obtain ⟨s1, s2⟩ := h1.set (o := .lst (ds ++ ys)) hn z rfl (.lst upd_same ((r.append rz).mono ev))
                exact ⟨p, b, vs, zs, rfl, rfl, z, hb, by rw [r.length, rz.length]; exact hz, h5 θ _ _ s2 s1 .non⟩
        · cases h4
    · cases h4
  · cases h4
def rGetA (K : PySem.W.Frag) (w : World) : V → List V → Hp → VK → Prop := fun x xs H Q => ∃ a ys k kv, x = .ref a ∧ DH K w H a ys ∧ KeyV K H k kv ∧ k.depth ≤ 8 ∧
    ((xs = [kv] ∧ (lookE ys k = none → Q .non H)) ∨ ∃ d, xs = [kv, d] ∧ (lookE ys k = none → Q d H)) ∧ ∀ u, lookE ys k = some u → ∃ v, RelV v u ∧ Q v H
theorem vm_get : VM K w mg T fGet (rGetA K w) := by
  intro θ H ih o x as xs d ih' Q h1 h2 h3 h4 h5
  obtain ⟨kvs, e0, h4⟩ := bindNone h4
  obtain ⟨p, ys, rfl, hD, r⟩ := getKvs_dh h1 h2 e0
  split at h4
  · rename_i a
    obtain ⟨k, e1, e2⟩ := mapNone h4
    cases e2
    cases h3 with
    | cons ra rr =>
      cases rr
      refine ⟨p, ys, k, _, rfl, hD, ra.key (hkey_some e1).1, (hkey_some e1).2, .inl ⟨rfl, fun hn => ?_⟩, fun u hu => ?_⟩
      · rcases r.look (k := k) with ⟨q1, q2⟩ | ⟨d', u', v', q1, q2, q3, q4⟩
        · rw [q1] at h5; exact h5 θ H _ (.refl _ _) h1 .non
        · rw [hn] at q2; cases q2
      · rcases r.look (k := k) with ⟨q1, q2⟩ | ⟨d', u', v', q1, q2, q3, q4⟩
        · rw [hu] at q2; cases q2
        · rw [hu] at q2; cases q2
          rw [q1] at h5
          exact ⟨v', q3, h5 θ H _ (.refl _ _) h1 q4⟩
  · rename_i a d0
    obtain ⟨k, e1, e2⟩ := mapNone h4
    cases e2
    cases h3 with
    | cons ra rr =>
      cases rr with
      | cons rb rr =>
        cases rr
        refine ⟨p, ys, k, _, rfl, hD, ra.key (hkey_some e1).1, (hkey_some e1).2, .inr ⟨_, rfl, fun hn => ?_⟩, fun u hu => ?_⟩
        · rcases r.look (k := k) with ⟨q1, q2⟩ | ⟨d', u', v', q1, q2, q3, q4⟩
          · rw [q1] at h5; exact h5 θ H _ (.refl _ _) h1 rb
          · rw [hn] at q2; cases q2
        · rcases r.look (k := k) with ⟨q1, q2⟩ | ⟨d', u', v', q1, q2, q3, q4⟩
          · rw [hu] at q2; cases q2
          · rw [hu] at q2; cases q2
            rw [q1] at h5
            exact ⟨v', q3, h5 θ H _ (.refl _ _) h1 q4⟩
  · cases h4
def rSetdA (K : PySem.W.Frag) (w : World) : V → List V → Hp → VK → Prop := fun x xs H Q => ∃ a ys k kv d, x = .ref a ∧ xs = [kv, d] ∧ H a = some (.ext (DAt w a ys)) ∧ DH K w H a ys ∧ KeyV K H k kv ∧ k.depth ≤ 8 ∧
    (∀ u, lookE ys k = some u → ∃ v, RelV v u ∧ Q v H) ∧ (lookE ys k = none → ∀ ku vu, RelV kv ku → RelV d vu → Q d (upd H a (.ext (DAt w a (putE ys k ku vu)))))
theorem vm_setd : VM K w mg T fSetd (rSetdA K w) := by
  intro θ H ih o x as xs d ih' Q h1 h2 h3 h4 h5
  unfold fSetd at h4
  split at h4
  · rename_i n a d0
    split at h4
    · rename_i kvs hk
      obtain ⟨k, e1, h4⟩ := bindNone h4
      cases h2 with
      | @obj _ p hn =>
        cases h3 with
        | cons ra rr =>
          cases rr with
          | cons rb rr =>
            cases rr
            cases h1.at_ n p _ hn hk with
            | @dct _ ys q1 q2 q3 q4 r =>
              refine ⟨p, ys, k, _, _, rfl, rfl, q1, ⟨.inl q1, q2, q3, q4, r.keys⟩, ra.key (hkey_some e1).1, (hkey_some e1).2, fun u hu => ?_, fun hnl ku vu rk rv => ?_⟩
              · rcases r.look (k := k) with ⟨z1, z2⟩ | ⟨d', u', v', z1, z2, z3, z4⟩
                · rw [hu] at z2; cases z2
                · rw [hu] at z2; cases z2
                  rw [z1] at h4
                  cases h4
                  exact ⟨v', z3, h5 θ H _ (.refl _ _) h1 z4⟩
              · rcases r.look (k := k) with ⟨z1, z2⟩ | ⟨d', u', v', z1, z2, z3, z4⟩
                · rw [z1] at h4
                  simp only at h4
                  split at h4
                  · rename_i hz
                    cases h4
                    have hl := r.length.1
                    rw [List.length_map] at hl
                    have ev : Ev θ H θ (L2.upd H p (.ext (DAt w p (putE ys k ku vu)))) := Ev.set (List.mem_of_getElem? hn) q1 rfl rfl
                    obtain ⟨s1, s2⟩ := h1.set (o := .dct (dput kvs a k _)) hn q1 rfl (.dct upd_same q2 (by rw [putE_len]; split <;> omega) (putE_nd q4) ((REs.put e1 ra rk rb rv r).mono ev))
                    exact h5 θ _ _ s2 s1 (rb.mono ev)
                  · cases h4
                · rw [hnl] at z2; cases z2
    · cases h4
  · cases h4
end
section
variable {T : List (Addr × Str)} {X : Cx} {o e : Expr} {es : List Expr} {mo : Env → M D} {ms : Env → M (List D)} {apos cpos : Pos}
theorem se_append (ho : SE T X o mo) (ha : SA T X [e] ms)
    (hbase : attributeBase o "append" X.env (eval o X.env) = eval o X.env := by rfl)
    (hfew : ((backTo cpos (starEach [e] X.env)).all (fun x => !x.1) && (backToKw cpos (keywordEach [] X.env)).all (fun x => x.1.isSome) && decide (([e] : List Expr).length + ([] : List Keyword).length + (if ([] : List Keyword).isEmpty then 0 else 1) < 30)) = true := by rfl)
    (hline : (apos.endLine == cpos.line) = true := by rfl) (hs : starEach [e] X.env = (false, eval e X.env) :: starEach [] X.env := by rfl) (hplain : (backTo cpos (starEach [] X.env)).any (·.1) = false := by rfl) :
    SE T X (.Call (.Attribute o "append" apos) [e] [] cpos) (xMethC isLstH fAppend mo ms) := (pe_bmX tyL_ok PySem.F.plainAttrs_list PySem.F.slot_list_append PySem.F.type_list_append mt_append ho ha hbase hfew hline hs hplain).le (sim_methC vm_append ckL_ok)
theorem se_pop (ho : SE T X o mo)
    (hbase : attributeBase o "pop" X.env (eval o X.env) = eval o X.env := by rfl) (hline : (apos.endLine == cpos.line) = true := by rfl) :
    SE T X (.Call (.Attribute o "pop" apos) [] [] cpos) (xMethC isLstH fPop mo xNil) := (pe_bmX0 tyL_ok PySem.F.plainAttrs_list PySem.F.slot_list_pop PySem.F.type_list_pop (MtR.or mt_pop mt_popAt) ho hbase hline).le fun σ H Q q => by
  obtain ⟨θ, ρ, ih, d, ih', h1, h2, h3, h4⟩ := q
  obtain ⟨p, e1, h3⟩ := bindNone h3
  split at h3
  · rename_i hck
    obtain ⟨q, e2, h3⟩ := bindNone h3
    cases e2
    exact ⟨θ, ρ, ih, _, _, h1, h2, e1, fun θ1 H1 v ev q1 r1 => ⟨ckL_ok θ1 H1 p.2 _ v q1 r1 hck, vm_pop θ1 H1 p.2 p.1 v [] [] d ih' Q q1 r1 .nil h3 fun θ3 H3 z ev3 => h4 θ3 H3 z (ev.trans ev3)⟩⟩
  · cases h3
theorem se_popAt (ho : SE T X o mo) (ha : SA T X [e] ms)
    (hbase : attributeBase o "pop" X.env (eval o X.env) = eval o X.env := by rfl)
    (hfew : ((backTo cpos (starEach [e] X.env)).all (fun x => !x.1) && (backToKw cpos (keywordEach [] X.env)).all (fun x => x.1.isSome) && decide (([e] : List Expr).length + ([] : List Keyword).length + (if ([] : List Keyword).isEmpty then 0 else 1) < 30)) = true := by rfl)
    (hline : (apos.endLine == cpos.line) = true := by rfl) (hs : starEach [e] X.env = (false, eval e X.env) :: starEach [] X.env := by rfl) (hplain : (backTo cpos (starEach [] X.env)).any (·.1) = false := by rfl) :
    SE T X (.Call (.Attribute o "pop" apos) [e] [] cpos) (xMethC isLstH fPop mo ms) := (pe_bmX tyL_ok PySem.F.plainAttrs_list PySem.F.slot_list_pop PySem.F.type_list_pop (MtR.or mt_pop mt_popAt) ho ha hbase hfew hline hs hplain).le (sim_methC vm_pop ckL_ok)
theorem se_extend (ho : SE T X o mo) (ha : SA T X [e] ms)
    (hbase : attributeBase o "extend" X.env (eval o X.env) = eval o X.env := by rfl)
    (hfew : ((backTo cpos (starEach [e] X.env)).all (fun x => !x.1) && (backToKw cpos (keywordEach [] X.env)).all (fun x => x.1.isSome) && decide (([e] : List Expr).length + ([] : List Keyword).length + (if ([] : List Keyword).isEmpty then 0 else 1) < 30)) = true := by rfl)
    (hline : (apos.endLine == cpos.line) = true := by rfl) (hs : starEach [e] X.env = (false, eval e X.env) :: starEach [] X.env := by rfl) (hplain : (backTo cpos (starEach [] X.env)).any (·.1) = false := by rfl) :
    SE T X (.Call (.Attribute o "extend" apos) [e] [] cpos) (xMethC isLstH fExtend mo ms) := (pe_bmX tyL_ok PySem.F.plainAttrs_list PySem.F.slot_list_extend PySem.F.type_list_extend mt_extA ho ha hbase hfew hline hs hplain).le (sim_methC vm_extend ckL_ok)
theorem se_get (hu : X.A.units + 64 < cLine) (ho : SE T X o mo) (ha : SA T X (e :: es) ms)
    (hbase : attributeBase o "get" X.env (eval o X.env) = eval o X.env := by rfl)
    (hfew : ((backTo cpos (starEach (e :: es) X.env)).all (fun x => !x.1) && (backToKw cpos (keywordEach [] X.env)).all (fun x => x.1.isSome) && decide ((e :: es).length + ([] : List Keyword).length + (if ([] : List Keyword).isEmpty then 0 else 1) < 30)) = true := by rfl)
    (hline : (apos.endLine == cpos.line) = true := by rfl) (hs : starEach (e :: es) X.env = (false, eval e X.env) :: starEach es X.env := by rfl) (hplain : (backTo cpos (starEach es X.env)).any (·.1) = false := by rfl) :
    SE T X (.Call (.Attribute o "get" apos) (e :: es) [] cpos) (xMethC isDctA fGet mo ms) := (pe_bmX tyD_ok PySem.F.plainAttrs_dict PySem.F.slot_dict_get PySem.F.type_dict_get (mt_getA hu) ho ha hbase hfew hline hs hplain).le (sim_methC vm_get ckD_ok)
theorem se_setd (hu : X.A.units + 64 < cLine) (ho : SE T X o mo) (ha : SA T X (e :: es) ms)
    (hbase : attributeBase o "setdefault" X.env (eval o X.env) = eval o X.env := by rfl)
    (hfew : ((backTo cpos (starEach (e :: es) X.env)).all (fun x => !x.1) && (backToKw cpos (keywordEach [] X.env)).all (fun x => x.1.isSome) && decide ((e :: es).length + ([] : List Keyword).length + (if ([] : List Keyword).isEmpty then 0 else 1) < 30)) = true := by rfl)
    (hline : (apos.endLine == cpos.line) = true := by rfl) (hs : starEach (e :: es) X.env = (false, eval e X.env) :: starEach es X.env := by rfl) (hplain : (backTo cpos (starEach es X.env)).any (·.1) = false := by rfl) :
    SE T X (.Call (.Attribute o "setdefault" apos) (e :: es) [] cpos) (xMethC isDctA fSetd mo ms) := (pe_bmX tyD_ok PySem.F.plainAttrs_dict PySem.F.slot_dict_setdefault PySem.F.type_dict_setdefault (mt_setdA hu) ho ha hbase hfew hline hs hplain).le (sim_methC vm_setd ckD_ok)
end
end Gh
end
section
set_option Elab.async false
set_option linter.all false
set_option maxRecDepth 100000
/-! Objects, calls, defs. -/
namespace Gh
open PySem PySem.Spec PyProof.Rows L2

/-! ### attributes -/
def putFd (f : Str) (d : D) : List (Str × D) → List (Str × D)
  | [] => [(f, d)]
  | (g, x) :: r => if g = f then (g, d) :: r else (g, x) :: putFd f d r
def fFld (c f : Str) (o : D) : M D := fun ih => match o with
  | .obj n => match ih[n]? with
    | some (.ins c' fs) => if c' = c then (fs.lookup f).map fun d => (d, ih) else none
    | _ => none
  | _ => none
def fSetF (c f : Str) (o d : D) (ih : IH) : Option IH := match o with
  | .obj n => match ih[n]? with
    | some (.ins c' fs) => if c' = c ∧ fs.length < 1000 then some (ih.set n (.ins c (putFd f d fs))) else none
    | _ => none
  | _ => none
section
variable {K : PySem.W.Frag} {w : World} {mg : Str → Option Value} {T : List (Addr × Str)} {θ : Th} {H : Hp}
theorem lookup_rd {f : Str} : ∀ {fs : List (Str × D)} {vs : List (Str × V)} {d : D}, vs.map (·.1) = fs.map (·.1) → RDs K w θ H (fs.map (·.2)) (vs.map (·.2)) → fs.lookup f = some d → ∃ v, vs.lookup f = some v ∧ RD K w θ H d v
  | [], vs, d, _, _, h => by simp at h
  | (g, x) :: fs, [], d, e, _, h => by simp at e
  | (g, x) :: fs, (g', y) :: vs, d, e, r, h => by
    simp only [List.map_cons, List.cons.injEq] at e
    obtain ⟨rfl, e⟩ := e
    cases r with
    | cons r rr =>
      rw [List.lookup_cons] at h ⊢
      split at h
      · cases h; exact ⟨y, rfl, r⟩
      · exact lookup_rd e rr h
theorem lookup_none {f : Str} : ∀ {fs : List (Str × D)} {vs : List (Str × V)}, vs.map (·.1) = fs.map (·.1) → fs.lookup f = none → vs.lookup f = none
  | [], [], _, _ => rfl
  | [], _ :: _, e, _ => by simp at e
  | _ :: _, [], e, _ => by simp at e
  | (g, x) :: fs, (g', y) :: vs, e, h => by
    simp only [List.map_cons, List.cons.injEq] at e
    obtain ⟨rfl, e⟩ := e
    rw [List.lookup_cons] at h ⊢
    split at h
    · cases h
    · exact lookup_none e h
theorem putF_rd {f : Str} {d : D} {v : V} (q : RD K w θ H d v) : ∀ {fs : List (Str × D)} {vs : List (Str × V)}, vs.map (·.1) = fs.map (·.1) → RDs K w θ H (fs.map (·.2)) (vs.map (·.2)) →
    (putF f v vs).map (·.1) = (putFd f d fs).map (·.1) ∧ RDs K w θ H ((putFd f d fs).map (·.2)) ((putF f v vs).map (·.2))
  | [], [], _, _ => ⟨rfl, .cons q .nil⟩
  | [], _ :: _, e, _ => by simp at e
  | _ :: _, [], e, _ => by simp at e
  | (g, x) :: fs, (g', y) :: vs, e, r => by
    simp only [List.map_cons, List.cons.injEq] at e
    obtain ⟨rfl, e⟩ := e
    cases r with
    | cons r rr =>
      unfold putFd putF
      by_cases hg : g' = f
      · rw [if_pos hg, if_pos hg]
        exact ⟨by simp [e], .cons q rr⟩
      · rw [if_neg hg, if_neg hg]
        obtain ⟨h1, h2⟩ := putF_rd (f := f) q e rr
        exact ⟨by simp [h1], .cons r h2⟩
end
section
variable {T : List (Addr × Str)} {X : Cx} {o e : Expr} {c f : Str} {pos pos' : Pos} {mo m : Env → M D}
theorem se_fld (hk : ∀ C, X.mg c = some (.ref C) → Cls X.K C ∧ NoAttr X.K C f) (ho : SE T X o mo) (hb : attributeBase o f X.env (eval o X.env) = eval o X.env := by rfl) : SE T X (.Attribute o f pos) (xUn (fFld c f) mo) :=
  (pe_fld ho hb).le (sim_un (r := fun x H1 Q => ∃ a C dx fs v, x = .ref a ∧ H1 a = some (.ins C dx fs) ∧ Cls X.K C ∧ NoAttr X.K C f ∧ fs.lookup f = some v ∧ Q v H1) fun θ H ih a x d ih' Q h1 h2 h3 h4 => by
    unfold fFld at h3
    split at h3
    · rename_i n
      split at h3
      · rename_i c' fs hn
        split at h3
        · rename_i hc
          subst hc
          obtain ⟨d', e1, e2⟩ := mapNone h3
          cases e2
          cases h2 with
          | @obj _ p hp =>
            cases h1.at_ n p _ hp hn with
            | @ins _ C dx _ vs z1 z2 z3 z4 =>
              obtain ⟨v, e3, rv⟩ := lookup_rd z3 z4 e1
              obtain ⟨k1, k2⟩ := hk C z1
              exact ⟨p, C, dx, vs, v, rfl, z2, k1, k2, e3, h4 θ H v (.refl _ _) h1 rv⟩
        · cases h3
      · cases h3
    · cases h3)
def yFld (c f : Str) (mo mv : Env → M D) : MS := fun ρ ih => (mv ρ ih).bind fun p => (mo ρ p.2).bind fun q => (fSetF c f q.1 p.1 q.2).bind fun ih' => some (.nx, ρ, ih')
theorem ss_fld (hk : ∀ C, X.mg c = some (.ref C) → Cls X.K C ∧ NoAttr X.K C f) (ho : SE T X o mo) (hv : SE T X e m) (hs : swapsWith e (some (.Attribute o f pos')) pos.line X.env = pure false := by rfl) : SS T X (.Assign [.Attribute o f pos'] e pos) (yFld c f mo m) := PS.le (ps_fld ho hv hs) fun D σ H q => by
  obtain ⟨θ, ρ, ih, fl, ρ', ih', h1, h2, h3, h4⟩ := q
  obtain ⟨p, e1, h3⟩ := bindNone h3
  obtain ⟨q, e2, h3⟩ := bindNone h3
  obtain ⟨ih3, e3, h3⟩ := bindNone h3
  cases h3
  refine ⟨θ, ρ, ih, _, _, h1, h2, e1, fun θ1 H1 v ev q1 r1 => ⟨θ1, ρ, p.2, _, _, q1, h2.mono ev, e2, fun θ2 H2 x ev2 q2 r2 => ?_⟩⟩
  obtain ⟨d2, ih2⟩ := q
  unfold fSetF at e3
  cases r2 with
  | @obj n a hn =>
    simp only at e3
    split at e3
    · rename_i c' fs hk'
      split at e3
      · rename_i hc
        obtain ⟨rfl, hz⟩ := hc
        cases e3
        cases q2.at_ n a _ hn hk' with
        | @ins _ C dx _ vs z1 z2 z3 z4 =>
          obtain ⟨k1, k2⟩ := hk C z1
          obtain ⟨w1, w2⟩ := putF_rd (f := f) (r1.mono ev2) z3 z4
          have ev3 : Ev θ2 H2 θ2 (upd H2 a (.ins C dx (putF f v vs))) := Ev.set (o := .ins C dx (putF f v vs)) (List.mem_of_getElem? hn) z2 rfl rfl
          obtain ⟨s1, s2⟩ := q2.set (o := .ins _ (putFd f p.1 fs)) hn z2 rfl (.ins z1 upd_same w1 (w2.mono ev3))
          have hl : vs.length = fs.length := by
            have := congrArg List.length z3
            simpa using this
          refine ⟨a, C, dx, vs, rfl, z2, k1, k2, by rw [hl]; exact hz, ?_⟩
          exact h4 θ2 _ σ (ev.trans (ev2.trans s2)) s1 (h2.mono (ev.trans (ev2.trans s2)))
      · cases e3
    · cases e3
  | _ => cases e3
end

/-! ### defs -/
def spM (K : PySem.W.Frag) (w : World) (mg : Str → Option Value) (T : List (Addr × Str)) (m : List D → M D) : Sp := fun vs H Q _ =>
  ∃ θ ds ih d ih', RH K w mg T θ H ih ∧ RDs K w θ H ds vs ∧ m ds ih = some (d, ih') ∧ ∀ θ' H' v, Ev θ H θ' H' → RH K w mg T θ' H' ih' → RD K w θ' H' d v → Q v H'
/-- a def's run, by its body's: P parameters, N names -/
def bodyM (P N : Nat) (b : MS) : List D → M D := fun ds ih => if ds.length = P then (b (ds.map some ++ List.replicate (N - P) none) ih).bind fun r => match r with
  | (.rt d, _, ih') => some (d, ih')
  | (.nx, _, ih') => some (.non, ih')
  | _ => none
  else none
theorem bodyM_len {P N : Nat} {b : MS} {ds : List D} {ih : IH} {r : D × IH} (h : bodyM P N b ds ih = some r) : ds.length = P := by
  unfold bodyM at h
  split at h
  · assumption
  · cases h
theorem RE.start {K : PySem.W.Frag} {w : World} {θ : Th} {H : Hp} (n : Nat) : ∀ {ds : List D} {vs : List V}, RDs K w θ H ds vs → RE K w θ H (ds.map some ++ List.replicate n none) (vs.map some ++ List.replicate n none)
  | _, _, .nil => by
    induction n with
    | zero => exact .nil
    | succ n ih => exact .gap ih
  | _, _, .cons q r => .val q (RE.start n r)
theorem spM_body {K : PySem.W.Frag} {w : World} {mg : Str → Option Value} {T : List (Addr × Str)} {P : Nat} {N : List Str} {b : MS} {vs : List V} {H : Hp} {Q : VK} {E : XK} (h : spM K w mg T (bodyM P N.length b) vs H Q E) : simS K w mg T b { nx := fun _ H' => Q .non H', rt := Q } (L2.start N vs) H := by
  obtain ⟨θ, ds, ih, d, ih', h1, h2, h3, h4⟩ := h
  have hl := bodyM_len h3
  unfold bodyM at h3
  rw [if_pos hl] at h3
  obtain ⟨r, e1, e2⟩ := bindNone h3
  obtain ⟨f, ρ', ih1⟩ := r
  refine ⟨θ, _, ih, f, ρ', ih1, h1, ?_, e1, fun θ' H' σ' ev q r => ?_⟩
  · unfold L2.start
    rw [h2.length, hl]
    exact RE.start _ h2
  · cases f with
    | nx => cases e2; exact h4 θ' H' _ ev q .non
    | rt d => cases e2; exact fun v rv => h4 θ' H' v ev q rv
    | bk => cases e2
    | ct => cases e2
section
variable {T : List (Addr × Str)} {X : Cx} {k : Nat} {a C : Addr} {fd : FuncData} {ps : List Str} {x c nm : Str} {p pos apos : Pos} {e o : Expr} {es : List Expr} {mo : Env → M D} {ms : Env → M (List D)} {m : List D → M D}
theorem sp_vn : VN X.K X.w X.mg T m (fun vs H Q => spM X.K X.w X.mg T m (vs ++ []) H Q E0) := fun θ H ih as xs d ih' Q h1 h2 h3 h4 => ⟨θ, as, ih, d, ih', h1, by rw [List.append_nil]; exact h2, h3, h4⟩
theorem se_call (F : FnOk X.prog X.w X.K X.mg X.base CX0 k a fd ps (spM X.K X.w X.mg T m)) (hr : Room k X.A) (hg : Gl X x) (hm : X.mg x = some (.ref a)) (hk : PySem.W.keepIn X.K (.ref a) = true) (hb : Binds X.K fd ps [])
    (ha : SA T X (e :: es) ms) (hdb : (x == ("__debug__" : Str)) = false := by decide) (he : starEach (e :: es) X.env = (false, eval e X.env) :: starEach es X.env := by rfl) (hpl : (backTo pos (starEach es X.env)).any (·.1) = false := by rfl) :
    SE T X (.Call (.Name x p) (e :: es) [] pos) (xArgs m ms) := (pe_call F hr hg hm hk hb .nil pass0 ha hdb he hpl).le (sim_args sp_vn)
theorem se_call0 (F : FnOk X.prog X.w X.K X.mg X.base CX0 k a fd ps (spM X.K X.w X.mg T m)) (hr : Room k X.A) (hg : Gl X x) (hm : X.mg x = some (.ref a)) (hk : PySem.W.keepIn X.K (.ref a) = true) (hb : Binds X.K fd ps [])
    (hdb : (x == ("__debug__" : Str)) = false := by decide) : SE T X (.Call (.Name x p) [] [] pos) (xArgs m xNil) := (pe_call0 F hr hg hm hk hb .nil pass0 hdb).le fun σ H Q q => by
  obtain ⟨θ, ρ, ih, d, ih', h1, h2, h3, h4⟩ := q
  exact ⟨θ, [], ih, d, ih', h1, .nil, h3, h4⟩
/-- o.nm(..), of the class c -/
def xCallM (c nm : Str) (m : List D → M D) (mo : Env → M D) (ms : Env → M (List D)) : Env → M D := fun ρ ih => (mo ρ ih).bind fun p => match p.1 with
  | .obj n => match p.2[n]? with
    | some (.ins c' fs) => if c' = c ∧ fs.lookup nm = none then (ms ρ p.2).bind fun q => m (.obj n :: q.1) q.2 else none
    | _ => none
  | _ => none
theorem meth_sim (hC : X.mg c = some (.ref C)) (σ : L2.St) (H : Hp) (Q : VK) (h : simE X.K X.w X.mg T (xCallM c nm m mo ms) σ H Q) : tMeth C nm (spM X.K X.w X.mg T m) [] E0 (simE X.K X.w X.mg T mo) (simA X.K X.w X.mg T ms) σ H Q := by
  obtain ⟨θ, ρ, ih, d, ih', h1, h2, h3, h4⟩ := h
  obtain ⟨p, e1, g3⟩ := bindNone h3
  clear h3
  refine ⟨θ, ρ, ih, _, _, h1, h2, e1, fun θ1 H1 v ev q1 r1 => ?_⟩
  obtain ⟨d1, ih1⟩ := p
  cases r1 with
  | @obj n a hn =>
    simp only at g3
    split at g3
    · rename_i c' fs hk'
      split at g3
      · rename_i hc
        obtain ⟨rfl, hl⟩ := hc
        obtain ⟨q, e2, g3⟩ := bindNone g3
        cases q1.at_ n a _ hn hk' with
        | @ins _ C' dx _ vs z1 z2 z3 z4 =>
          rw [hC] at z1
          cases z1
          refine ⟨a, dx, vs, rfl, z2, lookup_none z3 hl, θ1, ρ, ih1, _, _, q1, h2.mono ev, e2, fun θ2 H2 us ev2 q2 r2 => ?_⟩
          show spM X.K X.w X.mg T m (V.ref a :: (us ++ [])) H2 Q E0
          rw [List.append_nil]
          exact ⟨θ2, _, q.2, d, ih', q2, .cons (RD.mono ev2 (.obj hn)) r2, g3, fun θ3 H3 z ev3 => h4 θ3 H3 z (ev.trans (ev2.trans ev3))⟩
      · cases g3
    · cases g3
  | _ => cases g3
theorem se_meth {pl : Sem Bool} (ho : SE T X o mo) (hC : X.mg c = some (.ref C)) (cl : Cls X.K C) (hm : Meth X.K C nm a) (F : FnOk X.prog X.w X.K X.mg X.base CX0 k a fd ps (spM X.K X.w X.mg T m)) (hr : Room k X.A) (hb : Binds X.K fd ps []) (ha : SA T X (e :: es) ms)
    (hst : starEach (e :: es) X.env = (false, eval e X.env) :: starEach es X.env := by rfl) (hpl : (backTo pos (starEach es X.env)).any (·.1) = false := by rfl)
    (ht : eval (.Call (.Attribute o nm apos) (e :: es) [] pos) X.env = (do
      let ov ← eval o X.env
      standAt apos.atName
      let (f, first) ← holding [ov] (getMethod ov nm pl)
      callWith pos f first (backTo pos (starEach (e :: es) X.env)) (backToKw pos (keywordEach [] X.env))) := by rfl) :
    SE T X (.Call (.Attribute o nm apos) (e :: es) [] pos) (xCallM c nm m mo ms) := (pe_meth (pl := pl) ho cl hm F hr hb .nil pass0 ha hst hpl ht).le (meth_sim hC)
theorem se_meth0 {pl : Sem Bool} (ho : SE T X o mo) (hC : X.mg c = some (.ref C)) (cl : Cls X.K C) (hm : Meth X.K C nm a) (F : FnOk X.prog X.w X.K X.mg X.base CX0 k a fd ps (spM X.K X.w X.mg T m)) (hr : Room k X.A) (hb : Binds X.K fd ps [])
    (ht : eval (.Call (.Attribute o nm apos) [] [] pos) X.env = (do
      let ov ← eval o X.env
      standAt apos.atName
      let (f, first) ← holding [ov] (getMethod ov nm pl)
      callWith pos f first (backTo pos (starEach [] X.env)) (backToKw pos (keywordEach [] X.env))) := by rfl) :
    SE T X (.Call (.Attribute o nm apos) [] [] pos) (xCallM c nm m mo xNil) := (pe_meth0 (pl := pl) ho cl hm F hr hb .nil pass0 ht).le fun σ H Q q => by
  obtain ⟨θ, ρ, ih, d, ih', h1, h2, h3, h4⟩ := q
  obtain ⟨p, e1, g3⟩ := bindNone h3
  clear h3
  refine ⟨θ, ρ, ih, _, _, h1, h2, e1, fun θ1 H1 v ev q1 r1 => ?_⟩
  obtain ⟨d1, ih1⟩ := p
  cases r1 with
  | @obj n a hn =>
    simp only at g3
    split at g3
    · rename_i c' fs hk'
      split at g3
      · rename_i hc
        obtain ⟨rfl, hl⟩ := hc
        obtain ⟨q, e2, g3⟩ := bindNone g3
        cases e2
        cases q1.at_ n a _ hn hk' with
        | @ins _ C' dx _ vs z1 z2 z3 z4 =>
          rw [hC] at z1
          cases z1
          exact ⟨a, dx, vs, rfl, z2, lookup_none z3 hl, θ1, _, ih1, d, ih', q1, .cons (.obj hn) .nil, g3, fun θ3 H3 z ev3 => h4 θ3 H3 z (ev.trans ev3)⟩
      · cases g3
    · cases g3
  | _ => cases g3
/-- C(..) -/
def xMake (c : Str) (m : List D → M D) (ms : Env → M (List D)) : Env → M D := xArgs (fun ds ih => (m (.obj ih.length :: ds) (ih ++ [.ins c []])).bind fun r => match r with
  | (.non, ih') => some (.obj ih.length, ih')
  | _ => none) ms
theorem se_make (M : Mk X.K C a) (F : FnOk X.prog X.w X.K X.mg X.base CX0 k a fd ps (spM X.K X.w X.mg T m)) (hr : Room (k + 1) X.A) (hg : Gl X x) (hm : X.mg x = some (.ref C)) (hb : Binds X.K fd ps []) (ha : SA T X (e :: es) ms)
    (hdb : (x == ("__debug__" : Str)) = false := by decide) (he : starEach (e :: es) X.env = (false, eval e X.env) :: starEach es X.env := by rfl) (hpl : (backTo pos (starEach es X.env)).any (·.1) = false := by rfl) :
    SE T X (.Call (.Name x p) (e :: es) [] pos) (xMake x m ms) := (pe_make M F hr hg hm hb .nil pass0 ha hdb he hpl).le (sim_args (r := fun vs H1 Q => ∀ y dx, H1 y = none → H1 dx = none → dx ≠ y → spM X.K X.w X.mg T m (.ref y :: (vs ++ [])) (upd (upd H1 dx (.own y)) y (.ins C dx [])) (fun v H2 => v = .non ∧ Q (.ref y) H2) E0) fun θ H ih as xs d ih' Q h1 h2 h3 h4 => by
    intro y dx hy hdx hne
    obtain ⟨r, e1, e2⟩ := bindNone h3
    obtain ⟨d1, ih1⟩ := r
    cases d1 with
    | non =>
      cases e2
      have q1 := h1.new (u := .own y) hdx
      have hy1 : upd H dx (.own y) y = none := by rw [upd_ne (fun z => hne z.symm)]; exact hy
      have q2 := q1.made (u := .ins C dx []) (o := .ins x []) hy1 (.ins hm upd_same rfl .nil)
      have evA : Ev θ H ⟨θ.h ++ [y], θ.b⟩ (upd (upd H dx (.own y)) y (.ins C dx [])) := (Ev.new hdx).trans (Ev.made hy1)
      have ho : RD X.K X.w ⟨θ.h ++ [y], θ.b⟩ (upd (upd H dx (.own y)) y (.ins C dx [])) (.obj ih.length) (.ref y) := .obj (by
        show (θ.h ++ [y])[ih.length]? = some y
        rw [← h1.len, List.getElem?_append_right (Nat.le_refl _)]
        simp)
      rw [List.append_nil]
      exact ⟨_, _, _, .non, _, q2, .cons ho (h2.mono evA), e1, fun θ' H' v ev q r => ⟨by cases r; rfl, h4 θ' H' (.ref y) (evA.trans ev) q (ho.mono ev)⟩⟩
    | _ => cases e2)
end

/-! ### truth, and, or, not as values -/
def truD (d : D) (ih : IH) : Option Bool := match d with
  | .non => some false
  | .bl b => some b
  | .int i => some (i != 0)
  | .tup ds => some (!ds.isEmpty)
  | .lst ds => some (!ds.isEmpty)
  | .str x => if x.length ≤ sizeLine then some ((x.length : Int) != 0) else none
  | .obj n => match ih[n]? with
    | some (.lst ds) => some (!ds.isEmpty)
    | _ => none
  | _ => none
def tTru (m : Env → M D) : Env → M Bool := fun ρ ih => (m ρ ih).bind fun p => (truD p.1 p.2).map fun b => (b, p.2)
def xAndV (a b : Env → M D) : Env → M D := fun ρ ih => (a ρ ih).bind fun p => (asB p.1).bind fun c => if c = true then b ρ p.2 else some (.bl false, p.2)
def xOrV (a b : Env → M D) : Env → M D := fun ρ ih => (a ρ ih).bind fun p => (asB p.1).bind fun c => if c = true then some (.bl true, p.2) else b ρ p.2
def xNotV (a : Env → M D) : Env → M D := fun ρ ih => (a ρ ih).bind fun p => (asB p.1).bind fun c => some (.bl (!c), p.2)
section
variable {T : List (Addr × Str)} {X : Cx} {a b : Expr} {rest : List Expr} {op : BoolOp} {pos : Pos} {ma mb : Env → M D}
theorem rds_empty {K : PySem.W.Frag} {w : World} {θ : Th} {H : Hp} {ds : List D} {vs : List V} (r : RDs K w θ H ds vs) : vs.isEmpty = ds.isEmpty := by cases r <;> rfl
theorem truD_ok {K : PySem.W.Frag} {w : World} {mg : Str → Option Value} {θ : Th} {H : Hp} {ih : IH} {d : D} {x : V} {k : Bool} (h : RH K w mg T θ H ih) (r : RD K w θ H d x) (e : truD d ih = some k) : TruV K x H k := by
  cases r with
  | non => cases e; rfl
  | bl b => cases e; rfl
  | int i => cases e; rfl
  | tup a r => cases e; exact .inr (.inl ⟨_, a, by rw [rds_empty r]⟩)
  | lst f a r => cases e; exact .inl ⟨_, .inl a, by rw [rds_empty r]⟩
  | str x =>
    unfold truD at e
    simp only at e
    split at e
    · rename_i hz; cases e; exact ⟨hz, rfl⟩
    · cases e
  | @obj n p hn =>
    unfold truD at e
    simp only at e
    split at e
    · rename_i ds hk
      cases e
      cases h.at_ n p _ hn hk with
      | lst z r => exact .inl ⟨_, .of z, by rw [rds_empty r]⟩
    · cases e
  | _ => cases e
theorem st_tru (ha : SE T X a ma) (he : ∀ whole, isTrue a X.env whole = (do let v ← whole; standAt a.pos; holding [v] (truthy v)) := by intro _; rfl) : ST T X a (tTru ma) := (pt_truth ha he).le fun σ H Q q => by
  obtain ⟨θ, ρ, ih, d, ih', h1, h2, h3, h4⟩ := q
  obtain ⟨p, e1, e2⟩ := bindNone h3
  obtain ⟨k, e3, e4⟩ := mapNone e2
  cases e4
  exact ⟨θ, ρ, ih, _, _, h1, h2, e1, fun θ1 H1 v ev q1 r1 => ⟨_, truD_ok q1 r1 e3, h4 θ1 H1 _ ev q1 rfl⟩⟩
theorem asB_ok {K : PySem.W.Frag} {w : World} {θ : Th} {H : Hp} {d : D} {x : V} {k : Bool} (r : RD K w θ H d x) (e : asB d = some k) : x = .bl k := by
  cases r <;> first | (cases e; rfl) | cases e
theorem se_one (ha : SE T X a ma) : SE T X (.BoolOp op [a] pos) ma := pe_one ha
theorem se_and (ha : SE T X a ma) (hb : SE T X (.BoolOp .And (b :: rest) pos) mb) : SE T X (.BoolOp .And (a :: b :: rest) pos) (xAndV ma mb) := (pe_and ha hb).le fun σ H Q q => by
  obtain ⟨θ, ρ, ih, d, ih', h1, h2, h3, h4⟩ := q
  obtain ⟨p, e1, e2⟩ := bindNone h3
  obtain ⟨k, e3, e4⟩ := bindNone e2
  refine ⟨θ, ρ, ih, _, _, h1, h2, e1, fun θ1 H1 v ev q1 r1 => ⟨k, asB_ok r1 e3, ?_⟩⟩
  cases k with
  | true => exact ⟨θ1, ρ, p.2, d, ih', q1, h2.mono ev, e4, fun θ2 H2 z ev2 => h4 θ2 H2 z (ev.trans ev2)⟩
  | false => cases e4; exact h4 θ1 H1 _ ev q1 (.bl _)
theorem se_or (ha : SE T X a ma) (hb : SE T X (.BoolOp .Or (b :: rest) pos) mb) : SE T X (.BoolOp .Or (a :: b :: rest) pos) (xOrV ma mb) := (pe_or ha hb).le fun σ H Q q => by
  obtain ⟨θ, ρ, ih, d, ih', h1, h2, h3, h4⟩ := q
  obtain ⟨p, e1, e2⟩ := bindNone h3
  obtain ⟨k, e3, e4⟩ := bindNone e2
  refine ⟨θ, ρ, ih, _, _, h1, h2, e1, fun θ1 H1 v ev q1 r1 => ⟨k, asB_ok r1 e3, ?_⟩⟩
  cases k with
  | false => exact ⟨θ1, ρ, p.2, d, ih', q1, h2.mono ev, e4, fun θ2 H2 z ev2 => h4 θ2 H2 z (ev.trans ev2)⟩
  | true => cases e4; exact h4 θ1 H1 _ ev q1 (.bl _)
theorem se_not (ha : SE T X a ma) : SE T X (.UnaryOp .Not a pos) (xNotV ma) := (pe_not ha).le fun σ H Q q => by
  obtain ⟨θ, ρ, ih, d, ih', h1, h2, h3, h4⟩ := q
  obtain ⟨p, e1, e2⟩ := bindNone h3
  obtain ⟨k, e3, e4⟩ := bindNone e2
  cases e4
  exact ⟨θ, ρ, ih, _, _, h1, h2, e1, fun θ1 H1 v ev q1 r1 => ⟨k, asB_ok r1 e3, h4 θ1 H1 _ ev q1 (.bl _)⟩⟩
/-! {} -/
def xDnewH : Env → M D := fun _ ih => some (.obj ih.length, ih ++ [.dct []])
theorem se_dnewH : SE T X (.Dict [] [] pos) xDnewH := pe_dnewA.le fun σ H Q q => by
  obtain ⟨θ, ρ, ih, d, ih', h1, h2, h3, h4⟩ := q
  cases h3
  intro p hp hs
  refine h4 ⟨θ.h ++ [p], θ.b⟩ _ _ (.made hp) (h1.made hp (.dct upd_same hs (Nat.zero_le _) List.nodup_nil .nil)) (.obj ?_)
  show (θ.h ++ [p])[ih.length]? = some p
  rw [← h1.len, List.getElem?_append_right (Nat.le_refl _)]
  simp
/-- what stands as a dict is locked for good -/
theorem pe_frz {e : Expr} {t : TE} (h : PE X e t) : PE X e (fun σ H Q => t σ H (frzQ Q)) := ⟨fun pins s σ H Q I q => thn (h.run pins s σ H _ I q) fun v s1 ⟨x, H1, I1, r1, p, φ, ex, hp, q1⟩ => by
  obtain ⟨od, I2⟩ := I1.lock hp trivial
  exact ⟨x, _, I2, r1, by subst ex; exact q1 od⟩⟩
end
end Gh
end
section
set_option Elab.async false
set_option linter.all false
set_option maxRecDepth 100000
/-! Defs whose own things are done with at their end; locking. -/
namespace Gh
open PySem PySem.Spec PyProof.Rows L2

mutual
/-- no handle from n on -/
def clean (n : Nat) : D → Bool
  | .obj j => decide (j < n)
  | .tup ds => cleans n ds
  | .tupx ds => cleans n ds
  | .lst ds => cleans n ds
  | .dct ks vs => cleans n ks && cleans n vs
  | .non => true
  | .bl _ => true
  | .int _ => true
  | .str _ => true
def cleans (n : Nat) : List D → Bool
  | [] => true
  | d :: ds => clean n d && cleans n ds
end
mutual
/-- d, its things from n on as values -/
def fz (ih : IH) (n : Nat) : Nat → D → Option D
  | 0, d => if clean n d = true then some d else none
  | k + 1, .obj j => if j < n then some (.obj j) else match ih[j]? with
    | some (.lst ds) => (fzs ih n k ds).map .lst
    | _ => none
  | k + 1, .tup ds => (fzs ih n (k + 1) ds).map .tup
  | k + 1, .tupx ds => (fzs ih n (k + 1) ds).map .tupx
  | k + 1, .lst ds => (fzs ih n (k + 1) ds).map .lst
  | _ + 1, d => if clean n d = true then some d else none
def fzs (ih : IH) (n : Nat) : Nat → List D → Option (List D)
  | _, [] => some []
  | k, d :: ds => (fz ih n k d).bind fun e => (fzs ih n k ds).map fun es => e :: es
end
section
variable {K : PySem.W.Frag} {w : World} {mg : Str → Option Value} {T : List (Addr × Str)} {θ θ' : Th} {H : Hp}
mutual
theorem RD.isClean : ∀ {d : D} {v : V}, RD K w θ H d v → clean θ.h.length d = true
  | _, _, .non => rfl
  | _, _, .bl b => rfl
  | _, _, .int i => rfl
  | _, _, .str x => rfl
  | _, _, .tup h r => RDs.isClean r
  | _, _, .tupx h h1 r => RDs.isClean r
  | _, _, .lst ha h r => RDs.isClean r
  | _, _, .dct ha h h1 h2 h3 r => by
    rw [clean, (REs.isClean r).1, (REs.isClean r).2]
    rfl
  | _, _, .obj (n := n) (a := a) h => decide_eq_true (List.getElem?_eq_some_iff.mp h).1
theorem RDs.isClean : ∀ {ds : List D} {vs : List V}, RDs K w θ H ds vs → cleans θ.h.length ds = true
  | _, _, .nil => rfl
  | _, _, .cons h r => by
    rw [cleans, RD.isClean h, RDs.isClean r]
    rfl
theorem REs.isClean : ∀ {ks vs : List D} {ys : List Ent}, REs K w θ H ks vs ys → cleans θ.h.length ks = true ∧ cleans θ.h.length vs = true
  | _, _, _, .nil => ⟨rfl, rfl⟩
  | _, _, _, .cons h1 h2 h3 h4 h5 r => by
    refine ⟨?_, ?_⟩
    · rw [cleans, RD.isClean h2, (REs.isClean r).1]; rfl
    · rw [cleans, RD.isClean h4, (REs.isClean r).2]; rfl
end
/-- fewer handles -/
structure Few (θ θ' : Th) : Prop where
  b : θ.b = θ'.b
  h : ∃ l, θ'.h = θ.h ++ l
theorem Few.free (c : Few θ θ') {a : Addr} (h : θ'.free a) : θ.free a := by
  obtain ⟨l, e⟩ := c.h
  exact ⟨fun q => h.1 (by rw [e]; exact List.mem_append_left _ q), fun q => h.2 (by rw [← c.b]; exact q)⟩
section
variable (c : Few θ θ')
include c
mutual
theorem RD.few : ∀ {d : D} {v : V}, clean θ.h.length d = true → RD K w θ' H d v → RD K w θ H d v
  | _, _, _, .non => .non
  | _, _, _, .bl b => .bl b
  | _, _, _, .int i => .int i
  | _, _, _, .str x => .str x
  | _, _, q, .tup h r => .tup h (RDs.few q r)
  | _, _, q, .tupx h h1 r => .tupx h h1 (RDs.few q r)
  | _, _, q, .lst ha h r => .lst (c.free ha) h (RDs.few q r)
  | _, _, q, .dct ha h h1 h2 h3 r => .dct (c.free ha) h h1 h2 h3 (REs.few (by rw [clean, Bool.and_eq_true] at q; exact q.1) (by rw [clean, Bool.and_eq_true] at q; exact q.2) r)
  | .obj n, .ref a, q, .obj h => .obj (by
      obtain ⟨l, e⟩ := c.h
      rw [e, List.getElem?_append_left (of_decide_eq_true q)] at h
      exact h)
theorem RDs.few : ∀ {ds : List D} {vs : List V}, cleans θ.h.length ds = true → RDs K w θ' H ds vs → RDs K w θ H ds vs
  | _, _, _, .nil => .nil
  | _, _, q, .cons h r => .cons (RD.few (by rw [cleans, Bool.and_eq_true] at q; exact q.1) h) (RDs.few (by rw [cleans, Bool.and_eq_true] at q; exact q.2) r)
theorem REs.few : ∀ {ks vs : List D} {ys : List Ent}, cleans θ.h.length ks = true → cleans θ.h.length vs = true → REs K w θ' H ks vs ys → REs K w θ H ks vs ys
  | _, _, _, _, _, .nil => .nil
  | _, _, _, p, q, .cons h1 h2 h3 h4 h5 r => .cons h1 (RD.few (by rw [cleans, Bool.and_eq_true] at p; exact p.1) h2) h3 (RD.few (by rw [cleans, Bool.and_eq_true] at q; exact q.1) h4) h5
      (REs.few (by rw [cleans, Bool.and_eq_true] at p; exact p.2) (by rw [cleans, Bool.and_eq_true] at q; exact q.2) r)
end
end
/-- an old thing as it was -/
theorem RO.few (c : Few θ θ') {H0 : Hp} {a : Addr} {o : IO} (h0 : RO K w mg θ H0 a o) (h : RO K w mg θ' H a o) : RO K w mg θ H a o := by
  cases h with
  | lst z r => cases h0 with | lst z0 r0 => exact .lst z (RDs.few c r0.isClean r)
  | dct z z1 z2 z3 r => cases h0 with | dct y y1 y2 y3 r0 => exact .dct z z1 z2 z3 (REs.few c r0.isClean.1 r0.isClean.2 r)
  | lck z z1 z2 z3 r => cases h0 with | lck y y1 y2 y3 r0 => exact .lck z z1 z2 z3 (REs.few c r0.isClean.1 r0.isClean.2 r)
  | ins z z1 z2 r => cases h0 with | ins y y1 y2 r0 => exact .ins z z1 z2 (RDs.few c r0.isClean r)
theorem RH.few {H0 : Hp} {ih ih' : IH} (c : Few θ θ') (h0 : RH K w mg T θ H0 ih) (h : RH K w mg T θ' H ih') (e : ih'.take ih.length = ih) : RH K w mg T θ H ih := by
  obtain ⟨l, el⟩ := c.h
  refine ⟨fun p hp => ?_, fun b hb => ?_, h0.len, h0.nd, fun n a o h1 h2 => ?_⟩
  · obtain ⟨ps, h1, h2, h3⟩ := h.tab p hp
    refine ⟨ps, h1, h2, fun pos cv hc => ?_⟩
    obtain ⟨x, e1, e2, e3⟩ := h3 pos cv hc
    exact ⟨x, e1, c.free e2, e3⟩
  · obtain ⟨h1, h2⟩ := h.bon b (by rw [← c.b]; exact hb)
    exact ⟨fun q => h1 (by rw [el]; exact List.mem_append_left _ q), h2⟩
  · have hn := (List.getElem?_eq_some_iff.mp h1).1
    have h1' : θ'.h[n]? = some a := by rw [el, List.getElem?_append_left hn]; exact h1
    have h2' : ih'[n]? = some o := by
      rw [← e, List.getElem?_take] at h2
      split at h2
      · exact h2
      · cases h2
    exact RO.few c (h0.at_ n a o h1 h2) (h.at_ n a o h1' h2')
theorem Ev.few {H0 : Hp} (e : Ev θ H0 θ' H) : Few θ θ' := by
  obtain ⟨l, rfl, _⟩ := e.pre
  exact ⟨rfl, l, rfl⟩
theorem Ev.drop {H0 : Hp} (e : Ev θ H0 θ' H) : Ev θ H0 θ H := ⟨⟨[], by simp, by simp⟩, e.fr, e.on⟩
mutual
theorem fz_ok (c : Few θ θ') {ih : IH} (h : RH K w mg T θ' H ih) : ∀ (k : Nat) (d d' : D) (v : V), fz ih θ.h.length k d = some d' → RD K w θ' H d v → RD K w θ H d' v
  | 0, d, d', v, e, r => by
    cases d <;>
    · rw [fz] at e
      split at e
      · rename_i q; cases e; exact RD.few c q r
      · cases e
  | k + 1, .obj j, d', v, e, r => by
    rw [fz] at e
    split at e
    · rename_i hj
      cases e
      exact RD.few c (by rw [clean]; exact decide_eq_true hj) r
    · rename_i hj
      cases r with
      | @obj _ a hn =>
        split at e
        · rename_i ds hk
          obtain ⟨ds', e1, e2⟩ := mapNone e
          subst e2
          cases h.at_ j a _ hn hk with
          | @lst _ vs z r =>
            have hf : θ.free a := by
              obtain ⟨l, el⟩ := c.h
              refine ⟨fun q => ?_, fun q => ?_⟩
              · obtain ⟨i, hi⟩ := List.mem_iff_getElem?.mp q
                have hil := (List.getElem?_eq_some_iff.mp hi).1
                have hi' : θ'.h[i]? = some a := by rw [el, List.getElem?_append_left hil]; exact hi
                have := (List.getElem?_inj (List.getElem?_eq_some_iff.mp hi').1 h.nd).mp (hi'.trans hn.symm)
                omega
              · rw [c.b] at q
                exact (h.bon a q).1 (List.mem_of_getElem? hn)
            exact .lst hf (.of z) (fzs_ok c h k ds ds' vs e1 r)
        · cases e
  | k + 1, .tup ds, d', v, e, r => by
    rw [fz] at e
    obtain ⟨ds', e1, e2⟩ := mapNone e
    subst e2
    cases r with
    | tup s r => exact .tup s (fzs_ok c h (k + 1) ds ds' _ e1 r)
  | k + 1, .tupx ds, d', v, e, r => by
    rw [fz] at e
    obtain ⟨ds', e1, e2⟩ := mapNone e
    subst e2
    cases r with
    | tupx s s1 r => exact .tupx s s1 (fzs_ok c h (k + 1) ds ds' _ e1 r)
  | k + 1, .lst ds, d', v, e, r => by
    rw [fz] at e
    obtain ⟨ds', e1, e2⟩ := mapNone e
    subst e2
    cases r with
    | lst f s r => exact .lst (c.free f) s (fzs_ok c h (k + 1) ds ds' _ e1 r)
  | k + 1, .dct ks vs, d', v, e, r => by
    rw [fz] at e
    · split at e
      · rename_i q; cases e; exact RD.few c q r
      · cases e
    all_goals (intros; contradiction)
  | k + 1, .non, d', v, e, r => by
    rw [fz] at e
    · split at e
      · rename_i q; cases e; exact RD.few c q r
      · cases e
    all_goals (intros; contradiction)
  | k + 1, .bl _, d', v, e, r => by
    rw [fz] at e
    · split at e
      · rename_i q; cases e; exact RD.few c q r
      · cases e
    all_goals (intros; contradiction)
  | k + 1, .int _, d', v, e, r => by
    rw [fz] at e
    · split at e
      · rename_i q; cases e; exact RD.few c q r
      · cases e
    all_goals (intros; contradiction)
  | k + 1, .str _, d', v, e, r => by
    rw [fz] at e
    · split at e
      · rename_i q; cases e; exact RD.few c q r
      · cases e
    all_goals (intros; contradiction)
theorem fzs_ok (c : Few θ θ') {ih : IH} (h : RH K w mg T θ' H ih) : ∀ (k : Nat) (ds ds' : List D) (vs : List V), fzs ih θ.h.length k ds = some ds' → RDs K w θ' H ds vs → RDs K w θ H ds' vs
  | _, [], ds', vs, e, r => by
    rw [fzs] at e
    cases e
    cases r
    exact .nil
  | k, d :: ds, ds', vs, e, r => by
    rw [fzs] at e
    obtain ⟨d1, e1, e2⟩ := bindNone e
    obtain ⟨ds1, e3, e4⟩ := mapNone e2
    subst e4
    cases r with
    | cons q r => exact .cons (fz_ok c h k d d1 _ e1 q) (fzs_ok c h k ds ds1 _ e3 r)
end

/-- a run after which the old things are as they were, its value told -/
def pureM (m : List D → M D) : List D → M D := fun ds ih => (m ds ih).bind fun r => if r.2.take ih.length = ih then (fz r.2 ih.length 4 r.1).map fun d => (d, ih) else none
theorem pureM_len {m : List D → M D} {P : Nat} (h : ∀ ds ih r, m ds ih = some r → ds.length = P) (ds : List D) (ih : IH) (r : D × IH) (e : pureM m ds ih = some r) : ds.length = P := by
  obtain ⟨r1, e1, _⟩ := bindNone e
  exact h ds ih r1 e1
theorem spM_pure {m : List D → M D} {vs : List V} {H : Hp} {Q : VK} {E : XK} (h : spM K w mg T (pureM m) vs H Q E) : spM K w mg T m vs H Q E := by
  obtain ⟨θ, ds, ih, d, ih', h1, h2, h3, h4⟩ := h
  obtain ⟨r, e1, e2⟩ := bindNone h3
  split at e2
  · rename_i ht
    obtain ⟨d1, e3, e4⟩ := mapNone e2
    cases e4
    refine ⟨θ, ds, ih, r.1, r.2, h1, h2, e1, fun θ' H' v ev q rv => ?_⟩
    rw [← h1.len] at e3
    exact h4 θ H' v ev.drop (RH.few ev.few h1 q ht) (fz_ok ev.few q 4 _ _ v e3 rv)
  · cases e2
/-- .., its value a dict -/
def fzD (ih : IH) (n : Nat) (d : D) : Option D := match d with
  | .obj j => if j < n then none else match ih[j]? with
    | some (.dct kvs) => if cleans n (kvs.map (·.1)) = true then (fzs ih n 4 (kvs.map (·.2))).map fun vs => .dct (kvs.map (·.1)) vs else none
    | _ => none
  | _ => none
def pureD (m : List D → M D) : List D → M D := fun ds ih => (m ds ih).bind fun r => if r.2.take ih.length = ih then (fzD r.2 ih.length r.1).map fun d => (d, ih) else none
theorem REs.fz (c : Few θ θ') {ih : IH} (h : RH K w mg T θ' H ih) : ∀ {ks vs vs' : List D} {ys : List Ent}, cleans θ.h.length ks = true → fzs ih θ.h.length 4 vs = some vs' → REs K w θ' H ks vs ys → REs K w θ H ks vs' ys
  | _, _, _, _, _, e, .nil => by
    rw [fzs] at e
    cases e
    exact .nil
  | _, _, _, _, p, e, .cons h1 h2 h3 h4 h5 r => by
    rw [fzs] at e
    obtain ⟨d1, e1, e2⟩ := bindNone e
    obtain ⟨ds1, e3, e4⟩ := mapNone e2
    subst e4
    rw [cleans, Bool.and_eq_true] at p
    exact .cons h1 (RD.few c p.1 h2) h3 (fz_ok c h 4 _ _ _ e1 h4) h5 (REs.fz c h p.2 e3 r)
theorem spM_pureD {m : List D → M D} {vs : List V} {H : Hp} {Q : VK} {E : XK} (h : spM K w mg T (pureD m) vs H Q E) : spM K w mg T m vs H (frzQ Q) E := by
  obtain ⟨θ, ds, ih, d, ih', h1, h2, h3, h4⟩ := h
  obtain ⟨r, e1, e2⟩ := bindNone h3
  split at e2
  · rename_i ht
    obtain ⟨d1, e3, e4⟩ := mapNone e2
    cases e4
    refine ⟨θ, ds, ih, r.1, r.2, h1, h2, e1, fun θ' H' v ev q rv => ?_⟩
    rw [← h1.len] at e3
    obtain ⟨rd, ihr⟩ := r
    have c := ev.few
    cases rv with
    | @obj j a hn =>
      unfold fzD at e3
      simp only at e3
      split at e3
      · cases e3
      · rename_i hj
        split at e3
        · rename_i kvs hk
          split at e3
          · rename_i hcl
            obtain ⟨vs', e5, e6⟩ := mapNone e3
            subst e6
            cases q.at_ j a _ hn hk with
            | @dct _ ys z z1 z2 z3 r =>
              have hf : θ.free a := by
                obtain ⟨l, el⟩ := c.h
                refine ⟨fun q' => ?_, fun q' => ?_⟩
                · obtain ⟨i, hi⟩ := List.mem_iff_getElem?.mp q'
                  have hil := (List.getElem?_eq_some_iff.mp hi).1
                  have hi' : θ'.h[i]? = some a := by rw [el, List.getElem?_append_left hil]; exact hi
                  have := (List.getElem?_inj (List.getElem?_eq_some_iff.mp hi').1 q.nd).mp (hi'.trans hn.symm)
                  omega
                · rw [c.b] at q'
                  exact (q.bon a q').1 (List.mem_of_getElem? hn)
              refine ⟨a, _, rfl, z, fun od => ?_⟩
              have q2 := RH.few c h1 q ht
              have r2 := REs.fz c q hcl e5 r
              -- what a stands for is in the making, then locked
              have hH : H a = none := by
                cases e7 : H a with
                | none => rfl
                | some o =>
                  exfalso
                  obtain ⟨l, el, hl⟩ := ev.pre
                  have ha : a ∈ l := by
                    have := List.mem_of_getElem? hn
                    rw [el] at this
                    rcases List.mem_append.mp this with this | this
                    · exact absurd this hf.1
                    · exact this
                  rw [hl a ha] at e7
                  cases e7
              refine h4 θ _ (.ref a) (ev.drop.skip hH) (RH.frz q2 z hf.1 fun p hp ps hps pos x hx e => ?_) (.dct hf upd_same z1 z2 z3 (REs.lck (Lck.frz z) r2))
              obtain ⟨ps', t1, t2, t3⟩ := q.tab p hp
              rw [hps] at t1
              cases t1
              obtain ⟨y, u1, u2, u3⟩ := t3 pos (.ref x) hx
              cases u1
              exact u2.1 (e ▸ List.mem_of_getElem? hn)
          · cases e3
        · cases e3
    | _ => cases e3
  · cases e2
end

/-! ### a dict that is walked is locked -/
def lckOf (i : Nat) (ρ : Env) (ih : IH) : Option (Nat × List (D × D)) := match ρ[i]? with
  | some (some (.obj n)) => match ih[n]? with
    | some (.dct kvs) => some (n, kvs)
    | _ => none
  | _ => none
def yLk (i : Nat) (m : MS) : MS := fun ρ ih => match lckOf i ρ ih with
  | some (n, kvs) => (m ρ (ih.set n (.lck kvs))).bind fun r => if r.2.2[n]? = some (.lck kvs) then some (r.1, r.2.1, r.2.2.set n (.dct kvs)) else none
  | none => m ρ ih
def xLk (i : Nat) (m : Env → M D) : Env → M D := fun ρ ih => match lckOf i ρ ih with
  | some (n, kvs) => (m ρ (ih.set n (.lck kvs))).bind fun r => if r.2[n]? = some (.lck kvs) then some (r.1, r.2.set n (.dct kvs)) else none
  | none => m ρ ih
theorem lckOf_some {i : Nat} {ρ : Env} {ih : IH} {n : Nat} {kvs : List (D × D)} (h : lckOf i ρ ih = some (n, kvs)) : ρ[i]? = some (some (.obj n)) ∧ ih[n]? = some (.dct kvs) := by
  unfold lckOf at h
  split at h
  · rename_i j hj
    split at h
    · rename_i kvs' hk
      cases h
      exact ⟨hj, hk⟩
    · cases h
  · cases h
section
variable {T : List (Addr × Str)} {X : Cx} {st : Stmt} {e : Expr}
theorem lck_on {K : PySem.W.Frag} {w : World} {mg : Str → Option Value} {θ : Th} {H : Hp} {ih : IH} {n : Nat} {kvs : List (D × D)} (h : RH K w mg T θ H ih) (hk : ih[n]? = some (.dct kvs)) :
    ∃ a φ, θ.h[n]? = some a ∧ H a = some (.ext φ) ∧ ∀ od, Lck a θ H (upd H a (.frz od (.ext φ))) ∧ RH K w mg T θ (upd H a (.frz od (.ext φ))) (ih.set n (.lck kvs)) := by
  obtain ⟨a, hn, ro⟩ := h.get hk
  cases ro with
  | @dct _ ys z z1 z2 z3 r =>
    refine ⟨a, _, hn, z, fun od => ?_⟩
    have c : Lck a θ H (upd H a (.frz od (.ext (DAt w a ys)))) := Lck.on (List.mem_of_getElem? hn) z
    exact ⟨c, RH.lck c h hn (.lck upd_same z1 z2 z3 (REs.lck c r))⟩
theorem lck_off {K : PySem.W.Frag} {w : World} {mg : Str → Option Value} {θ θ' : Th} {H H' : Hp} {ih : IH} {n : Nat} {a : Addr} {od : Obj} {φ : Heap → Prop} {kvs : List (D × D)} (hn : θ.h[n]? = some a) (ha : H a = some (.ext φ)) (ev : Ev θ (upd H a (.frz od (.ext φ))) θ' H') (h : RH K w mg T θ' H' ih) (hk : ih[n]? = some (.lck kvs)) :
    H' a = some (.frz od (.ext φ)) ∧ Lck a θ' H' (upd H' a (.ext φ)) ∧ RH K w mg T θ' (upd H' a (.ext φ)) (ih.set n (.dct kvs)) ∧ Ev θ H θ' (upd H' a (.ext φ)) := by
  have h1 : H' a = some (.frz od (.ext φ)) := ev.fr a _ upd_same (.inr rfl)
  have hn' : θ'.h[n]? = some a := (Lat.ev ev).at_ hn
  have c : Lck a θ' H' (upd H' a (.ext φ)) := Lck.off (List.mem_of_getElem? hn') h1
  refine ⟨h1, c, ?_, Ev.unlock ha ev⟩
  cases h.at_ n a _ hn' hk with
  | @lck _ ys ob z z1 z2 z3 r =>
    have e : HO.ext φ = .ext (DAt w a ys) := by
      rw [h1] at z
      cases z
      rfl
    exact RH.lck c h hn' (.dct (by rw [upd_same, e]) z1 z2 z3 (REs.lck c r))
theorem ss_lock {m : MS} (i : Nat) (h : SS T X st m) : SS T X st (yLk i m) := ⟨fun pins s σ H D I q => by
  obtain ⟨θ, ρ, ih, f, ρ', ih', h1, h2, h3, h4⟩ := q
  unfold yLk at h3
  cases e : lckOf i ρ ih with
  | none =>
    rw [e] at h3
    exact h.run pins s σ H D I ⟨θ, ρ, ih, f, ρ', ih', h1, h2, h3, h4⟩
  | some p =>
    obtain ⟨n, kvs⟩ := p
    rw [e] at h3
    obtain ⟨r, e1, e2⟩ := bindNone h3
    clear h3
    split at e2
    · rename_i hk'
      cases e2
      obtain ⟨e3, hk⟩ := lckOf_some e
      obtain ⟨a, φ, hn, ha, hl⟩ := lck_on h1 hk
      refine (ps_lock h).run pins s σ H D I ⟨a, _, ha, trivial, fun od => ?_⟩
      obtain ⟨c, q1⟩ := hl od
      refine ⟨θ, ρ, _, r.1, r.2.1, r.2.2, q1, h2.lck c, e1, fun θ' H' σ' ev q2 r2 => ?_⟩
      obtain ⟨u1, c2, u2, u3⟩ := lck_off hn ha ev q2 hk'
      have fin := h4 θ' (upd H' a (.ext φ)) σ' u3 u2 (r2.lck c2)
      obtain ⟨fl, ρ2, ih2⟩ := r
      cases fl with
      | nx => exact ⟨u1, fin⟩
      | bk => exact ⟨u1, fin⟩
      | ct => exact ⟨u1, fin⟩
      | rt d => exact fun v rv => ⟨u1, fin v (RD.lck c2 rv)⟩
    · cases e2⟩
theorem se_lock {m : Env → M D} (i : Nat) (h : SE T X e m) : SE T X e (xLk i m) := ⟨fun pins s σ H Q I q => by
  obtain ⟨θ, ρ, ih, d, ih', h1, h2, h3, h4⟩ := q
  unfold xLk at h3
  cases e0 : lckOf i ρ ih with
  | none =>
    rw [e0] at h3
    exact h.run pins s σ H Q I ⟨θ, ρ, ih, d, ih', h1, h2, h3, h4⟩
  | some p =>
    obtain ⟨n, kvs⟩ := p
    rw [e0] at h3
    obtain ⟨r, e1, e2⟩ := bindNone h3
    clear h3
    split at e2
    · rename_i hk'
      cases e2
      obtain ⟨e3, hk⟩ := lckOf_some e0
      obtain ⟨a, φ, hn, ha, hl⟩ := lck_on h1 hk
      refine (pe_lock h).run pins s σ H Q I ⟨a, _, ha, trivial, fun od => ?_⟩
      obtain ⟨c, q1⟩ := hl od
      refine ⟨θ, ρ, _, r.1, r.2, q1, h2.lck c, e1, fun θ' H' v ev q2 r2 => ?_⟩
      obtain ⟨u1, c2, u2, u3⟩ := lck_off hn ha ev q2 hk'
      exact ⟨u1, h4 θ' (upd H' a (.ext φ)) v u3 u2 (RD.lck c2 r2)⟩
    · cases e2⟩
end
/-! ### calls of such defs -/
section
variable {T : List (Addr × Str)} {X : Cx} {k : Nat} {a C : Addr} {fd : FuncData} {ps : List Str} {x c nm : Str} {p pos apos : Pos} {e o : Expr} {es : List Expr} {mo : Env → M D} {ms : Env → M (List D)} {m : List D → M D}
theorem FnOk.pure {P : Program} {w : World} {K : PySem.W.Frag} {mg : Str → Option Value} {base : Heap} (F : FnOk P w K mg base CX0 k a fd ps (spM K w mg T m)) : FnOk P w K mg base CX0 k a fd ps (spM K w mg T (pureM m)) := F.imp fun _ _ _ _ => spM_pure
theorem se_callD (F : FnOk X.prog X.w X.K X.mg X.base CX0 k a fd ps (spM X.K X.w X.mg T m)) (hr : Room k X.A) (hg : Gl X x) (hm : X.mg x = some (.ref a)) (hk : PySem.W.keepIn X.K (.ref a) = true) (hb : Binds X.K fd ps [])
    (ha : SA T X (e :: es) ms) (hdb : (x == ("__debug__" : Str)) = false := by decide) (he : starEach (e :: es) X.env = (false, eval e X.env) :: starEach es X.env := by rfl) (hpl : (backTo pos (starEach es X.env)).any (·.1) = false := by rfl) :
    SE T X (.Call (.Name x p) (e :: es) [] pos) (xArgs (pureD m) ms) := (pe_frz (pe_call F hr hg hm hk hb .nil pass0 ha hdb he hpl)).le (sim_args fun θ H ih as xs d ih' Q h1 h2 h3 h4 => by
      rw [List.append_nil]
      exact spM_pureD (E := E0) ⟨θ, as, ih, d, ih', h1, h2, h3, h4⟩)
theorem se_meth0D {pl : Sem Bool} (ho : SE T X o mo) (hC : X.mg c = some (.ref C)) (cl : Cls X.K C) (hm : Meth X.K C nm a) (F : FnOk X.prog X.w X.K X.mg X.base CX0 k a fd ps (spM X.K X.w X.mg T m)) (hr : Room k X.A) (hb : Binds X.K fd ps [])
    (ht : eval (.Call (.Attribute o nm apos) [] [] pos) X.env = (do
      let ov ← eval o X.env
      standAt apos.atName
      let (f, first) ← holding [ov] (getMethod ov nm pl)
      callWith pos f first (backTo pos (starEach [] X.env)) (backToKw pos (keywordEach [] X.env))) := by rfl) :
    SE T X (.Call (.Attribute o nm apos) [] [] pos) (xCallM c nm (pureD m) mo xNil) := (pe_frz (pe_meth0 (pl := pl) ho cl hm F hr hb .nil pass0 ht)).le fun σ H Q q => by
  obtain ⟨θ, ρ, ih, d, ih', h1, h2, h3, h4⟩ := q
  obtain ⟨p, e1, g3⟩ := bindNone h3
  clear h3
  refine ⟨θ, ρ, ih, _, _, h1, h2, e1, fun θ1 H1 v ev q1 r1 => ?_⟩
  obtain ⟨d1, ih1⟩ := p
  cases r1 with
  | @obj n a hn =>
    simp only at g3
    split at g3
    · rename_i c' fs hk'
      split at g3
      · rename_i hc
        obtain ⟨rfl, hl⟩ := hc
        obtain ⟨q, e2, g3⟩ := bindNone g3
        cases e2
        cases q1.at_ n a _ hn hk' with
        | @ins _ C' dx _ vs z1 z2 z3 z4 =>
          rw [hC] at z1
          cases z1
          exact ⟨a, dx, vs, rfl, z2, lookup_none z3 hl, spM_pureD (E := E0) ⟨θ1, _, ih1, d, ih', q1, .cons (.obj hn) .nil, g3, fun θ3 H3 z ev3 => h4 θ3 H3 z (ev.trans ev3)⟩⟩
      · cases g3
    · cases g3
  | _ => cases g3
end
end Gh
end
section
set_option Elab.async false
set_option linter.all false
set_option maxRecDepth 100000
/-! Dicts made of others: retyping, sorted(d), dict(pairs), tuple(list) as an exact tuple. -/
namespace Gh
open PySem PySem.Spec PyProof.Rows L2

def nk : Key → NestedKey
  | .inl i => .num i
  | .inr x => .text x
theorem nk_inj {a b : Key} (h : nk a = nk b) : a = b := by
  cases a <;> cases b <;> first | (injection h with h; rw [h]) | cases h
/-- entries by ints and texts -/
inductive KEnt : List (Key × V) → List Ent → Prop
  | nil : KEnt [] []
  | cons {k : Key} {v : V} {ku vu : Value} {kvs : List (Key × V)} {ys : List Ent} : RelV (kV k) ku → RelV v vu → KEnt kvs ys → KEnt ((k, v) :: kvs) ((nk k, ku, vu) :: ys)
theorem KEnt.keys : ∀ {kvs : List (Key × V)} {ys : List Ent}, KEnt kvs ys → ys.map (·.1) = (kvs.map (·.1)).map nk
  | _, _, .nil => rfl
  | _, _, .cons h1 h2 r => by rw [List.map_cons, List.map_cons, List.map_cons, KEnt.keys r]
theorem KEnt.len {kvs : List (Key × V)} {ys : List Ent} (h : KEnt kvs ys) : ys.length = kvs.length := by
  have := congrArg List.length h.keys
  simpa using this
theorem kIs_rel {k : Key} {u : Value} (h : keyIs k u = true) : RelV (kV k) u := by
  rcases keyIs_shape h with ⟨i, t, rfl, rfl⟩ | ⟨x, t, rfl, rfl⟩ <;> exact ⟨t, rfl⟩
theorem kEnt_of {P : Program} {w : World} : ∀ {kvs : List (Key × V)} {vs : List (Key × Value)} {es : List DictEntry}, KV kvs vs → Pairs (mixKind P w) es vs → (∀ e ∈ es, ∃ k, (mixKind P w).is k e.key = true ∧ e.hash = (mixKind P w).hash k) → ∃ ys, es = ys.map (ent w) ∧ KEnt kvs ys
  | _, _, _, .nil, .nil, _ => ⟨[], rfl, .nil⟩
  | (k, v) :: kvs, (k', u) :: vs, e :: es, .cons r rs, .cons h1 h2 ps, hh => by
    obtain ⟨rfl, rv⟩ := r
    obtain ⟨ys, e1, e2⟩ := kEnt_of rs ps fun e he => hh e (List.mem_cons_of_mem _ he)
    obtain ⟨k2, g1, g2⟩ := hh e List.mem_cons_self
    have hk : k2 = k := (mixKind P w).inj e.key k2 k g1 h1
    subst hk
    refine ⟨(nk k2, e.key, e.val) :: ys, ?_, .cons (kIs_rel h1) (by rw [h2]; exact rv) e2⟩
    rw [List.map_cons, ← e1]
    obtain ⟨hs, kk, vv⟩ := e
    cases k2 with
    | inl i => simp only [ent, nk] at *; rw [g2]; rfl
    | inr x => simp only [ent, nk] at *; rw [g2]; rfl
theorem dat_of {P : Program} {w : World} {h : Heap} {a : Addr} {kvs : List (Key × V)} {vs : List (Key × Value)} (r : KV kvs vs) (x : h.DictOf (mixKind P w) a vs) : ∃ ys, DAt w a ys h ∧ KEnt kvs ys ∧ (kvs.map (·.1)).Nodup := by
  obtain ⟨o, es, ep, ho, hc, hd, hk, hp, hn⟩ := x
  obtain ⟨ys, e1, e2⟩ := kEnt_of r hp fun e he => hk e (Array.mem_toList_iff.mp he)
  have ek : kvs.map (·.1) = vs.map (·.1) := r.keys
  exact ⟨ys, ⟨o, es, ep, ho, hc, hd, e1⟩, e2, by rw [ek]; exact hn⟩
theorem nodup_nk {l : List Key} (h : l.Nodup) : (l.map nk).Nodup := by
  induction l with
  | nil => exact List.nodup_nil
  | cons k l ih =>
    rw [List.nodup_cons] at h
    rw [List.map_cons, List.nodup_cons]
    refine ⟨fun hm => ?_, ih h.2⟩
    obtain ⟨j, hj, e⟩ := List.mem_map.mp hm
    rw [nk_inj e] at hj
    exact h.1 hj
/-- a new dict by ints and texts, as one by keys -/
def dkQ (w : World) (Q : VK) : VK := fun v H => ∃ p kvs, v = .ref p ∧ H p = some (.dK kvs) ∧ ∀ ys, KEnt kvs ys → (kvs.map (·.1)).Nodup → ys.length ≤ sizeLine → (p == sysModules) = false → Q v (upd H p (.ext (DAt w p ys)))
section
variable {X : Cx}
theorem inv_dk {pins : List (Addr × Obj)} {σ : L2.St} {H : Hp} {s : Shared} {p : Addr} {kvs : List (Key × V)} (I : Inv X pins σ H s) (h : H p = some (.dK kvs)) : ∃ ys, KEnt kvs ys ∧ (kvs.map (·.1)).Nodup ∧ ys.length ≤ sizeLine ∧ (p == sysModules) = false ∧ Inv X pins σ (upd H p (.ext (DAt X.w p ys))) s := by
  obtain ⟨z, y, vs, r, d⟩ := I.hok p _ h
  obtain ⟨ys, h1, h2, h3⟩ := dat_of r d
  obtain ⟨o, _, _, ho, _⟩ := id h1
  exact ⟨ys, h2, h3, by rw [h2.len]; exact z, y, I.write (x := p) (e := p) (t' := s.toks) (by rw [h]; trivial) (.inl rfl) (fun b u _ q => q) ⟨o, ho⟩ h1.ext⟩
theorem pe_dkA {e : Expr} {t : TE} (h : PE X e t) : PE X e (fun σ H Q => t σ H (dkQ X.w Q)) := ⟨fun pins s σ H Q I q => thn (h.run pins s σ H _ I q) fun v s1 ⟨x, H1, I1, r1, p, kvs, ex, hp, q1⟩ => by
  obtain ⟨ys, a1, a2, a3, a4, I2⟩ := inv_dk I1 hp
  exact ⟨x, _, I2, r1, by subst ex; exact q1 ys a1 a2 a3 a4⟩⟩
end

/-! ### sorted(d), its keys ints -/
theorem pairs_of_int {K : PySem.W.Frag} {P : Program} {w : World} {θ : Th} {H : Hp} : ∀ {ks vs : List D} {ys : List Ent} {is : List Int}, REs K w θ H ks vs ys → asInts ks = some is →
    ∃ kvs : List (Key × Value), Pairs (mixKind P w) (ys.map (ent w)) kvs ∧ kvs.map (·.1) = is.map Sum.inl ∧ (∀ e ∈ ys.map (ent w), ∃ k, (mixKind P w).is k e.key = true ∧ e.hash = (mixKind P w).hash k) ∧ ys.map (·.1) = is.map NestedKey.num
  | _, _, _, is, .nil, e => by
    cases e
    exact ⟨[], .nil, rfl, fun e he => absurd he (by simp), rfl⟩
  | kd :: ks, vd :: vs, (k, ku, vu) :: ys, is, .cons h1 h2 h3 h4 h5 r, e => by
    unfold asInts at e
    obtain ⟨i, e1, e2⟩ := bindNone e
    obtain ⟨is', e3, e4⟩ := mapNone e2
    subst e4
    obtain ⟨kvs, p1, p2, p3, p4⟩ := pairs_of_int (P := P) r e3
    cases kd with
    | int j =>
      cases e1
      cases h2
      obtain ⟨t, rfl⟩ := h3
      obtain ⟨hk, _⟩ := hkey_some h1
      rw [keyOf] at hk
      cases hk
      have hi : (mixKind P w).is (.inl i) (.int i t) = true := mixKind_int P w i t
      refine ⟨(.inl i, vu) :: kvs, .cons hi rfl p1, by rw [List.map_cons, p2]; rfl, fun e he => ?_, by rw [List.map_cons, p4]; rfl⟩
      rw [List.map_cons] at he
      rcases List.mem_cons.mp he with rfl | he
      · exact ⟨.inl i, hi, rfl⟩
      · exact p3 e he
    | _ => cases e1
theorem nodup_map {α β : Type} (f : α → β) (hf : ∀ a b, f a = f b → a = b) {l : List α} (h : (l.map f).Nodup) : l.Nodup := by
  induction l with
  | nil => exact List.nodup_nil
  | cons a l ih =>
    rw [List.map_cons, List.nodup_cons] at h
    rw [List.nodup_cons]
    exact ⟨fun hm => h.1 (List.mem_map_of_mem hm), ih h.2⟩
theorem map_nodup {α β : Type} (f : α → β) (hf : ∀ a b, f a = f b → a = b) {l : List α} (h : l.Nodup) : (l.map f).Nodup := by
  induction l with
  | nil => exact List.nodup_nil
  | cons k l ih =>
    rw [List.nodup_cons] at h
    rw [List.map_cons, List.nodup_cons]
    refine ⟨fun hm => ?_, ih h.2⟩
    obtain ⟨j, hj, e⟩ := List.mem_map.mp hm
    rw [hf _ _ e] at hj
    exact h.1 hj
section
variable {X : Cx}
def rSortedD (X : Cx) : List V → Hp → VK → Prop := fun xs H Q => ∃ (a : Addr) (ys : List Ent) (kvs : List (Key × Value)) (is : List Int), xs = [.ref a] ∧ Rd H a (.ext (DAt X.w a ys)) ∧ (a == sysModules) = false ∧ ys.length ≤ sizeLine ∧ is.Nodup ∧
  Pairs (mixKind X.prog X.w) (ys.map (ent X.w)) kvs ∧ kvs.map (·.1) = is.map Sum.inl ∧ (∀ e ∈ ys.map (ent X.w), ∃ k, (mixKind X.prog X.w).is k e.key = true ∧ e.hash = (mixKind X.prog X.w).hash k) ∧
  ∀ (ns : List Int) (p : Addr), ns.Perm is → ns.Pairwise (· ≤ ·) → H p = none → Q (.ref p) (upd H p (.lst (ns.map V.int)))
theorem cr_sortedD (hcalm : X.calm = true) : CallR X (.builtin "sorted") (rSortedD X) := by
  intro pins s σ H xs us Q I r q
  obtain ⟨a, ys, vs, ks, ex, hd, lo, hz, hnd, hp, hkeys, hes, q⟩ := q
  subst ex
  obtain ⟨u, eu, rx⟩ := vals1 r
  subst eu
  cases rx
  obtain ⟨o, es, ep, ho, hc, hdat, he⟩ := (hd.ok I.hok).1
  have hat : s.heap.DictAt (mixKind X.prog X.w) a vs ep := ⟨o, es, ho, hc, hdat, fun e h => hes e (by rw [← he]; exact Array.mem_toList_iff.mpr h), by rw [he]; exact hp, by rw [hkeys]; exact map_nodup _ (fun _ _ e => by injection e) hnd⟩
  have hl : vs.length = ks.length := by
    have e := congrArg List.length hkeys
    rw [List.length_map, List.length_map] at e
    exact e
  have hl2 : vs.length = ys.length := by
    have : ∀ {es : List DictEntry} {vs : List (Key × Value)}, Pairs (mixKind X.prog X.w) es vs → vs.length = es.length := by
      intro es vs h
      induction h with
      | nil => rfl
      | cons _ _ _ ih => rw [List.length_cons, List.length_cons, ih]
    rw [this hp, List.length_map]
  have h16 : vs.length ≤ sizeLine := by rw [hl2]; exact hz
  refine Calls.call_function_entry PyProof.Rows.kind_sorted PyProof.Rows.plain_sorted PyProof.Rows.entry_sorted (PyProof.Rows.args_sorted1 _) ?_
  unfold Builtin.«sorted»
  refine wpAny_bind (m := checkCount "sorted" 1 1 _) (wpAny_pure ?_)
  refine wpAny_bind (PySem.W.kdu_collect (A := X.A.in1) (PySem.W.kdl_dict (knd := mixKind X.prog X.w) (kvs := vs) (ep := ep) lo) (I.ok.hd hcalm) hat h16 fun h' tk acc hk hacc => ?_)
  have hal : acc.toList.length = ks.length := by rw [Array.length_toList, hacc.1, hl]
  have hS : IntsAre acc.toList ks := ints_each hal fun j v e => by
    obtain ⟨k, x, e1, e2⟩ := hacc.2 j v (by rw [← Array.getElem?_toList]; exact e)
    have e3 : (vs.map (·.1))[j]? = some k := by rw [List.getElem?_map, e1]; rfl
    rw [hkeys, List.getElem?_map] at e3
    cases e4 : ks[j]? with
    | none => rw [e4] at e3; cases e3
    | some y =>
      rw [e4] at e3
      have e5 : Sum.inl y = k := Option.some.inj e3
      subst e5
      rcases keyIs_shape (show keyIs (Sum.inl y) v = true from e2) with ⟨i, t, ek, ev⟩ | ⟨z, t, ek, ev⟩
      · cases ek
        exact ⟨y, t, rfl, ev⟩
      · cases ek
  have hkz : acc.toList.length ≤ sizeLine := by rw [hal, ← hl]; exact h16
  have I1 : Inv X pins σ H { s with heap := h', toks := tk } := I.kept hk
  refine wpAny_bind (wpAny_newList ?_ hkz)
  have hoL : (h'.push (seqObj "list" acc.toList.toArray 0)).get? h'.objs.size = some (seqObj "list" acc.toList.toArray 0) := Heap.get?_push_size _ rfl
  show wpAny _ _ _ _ _ { s with heap := h'.push (seqObj "list" acc.toList.toArray 0), toks := tk }
  refine wpAny_bind (wpAny_holding (wpAny_call_entry PyProof.Rows.slot_list_sort ⟨_, hoL, rfl⟩ PyProof.Rows.entry_list_sort
    (SrtO.list_sort_ord (s := { s with heap := h'.push (seqObj "list" acc.toList.toArray 0), toks := tk }) SrtO.swo_int hoL hkz (fun h2 => SrtO.ints_sortable hS h2) fun out h1 h2 => ⟨_, rfl, ?_⟩) (PyProof.Rows.args_list_sort _)))
  obtain ⟨k1, k2, k3⟩ := SrtO.ints_out hS h1 h2
  obtain ⟨e', he'⟩ := PyProof.Rows.sortedHeap_at (vs := acc.toList) (out := out.toArray) hoL
  have hlen : ((out.map SrtO.iv).map V.int).length ≤ sizeLine := by
    rw [List.length_map, k2.length_eq, ← hl]
    exact h16
  refine wpAny_pure ⟨_, rfl, .ref h'.objs.size, upd H h'.objs.size (.lst ((out.map SrtO.iv).map V.int)), I1.laid (t' := tk) (fun b u e => ?_) (Nat.le_refl _)
    (show ObjOk X.prog X.w _ _ _ (.lst ((out.map SrtO.iv).map V.int)) from ⟨hlen, out, e', vals_of_ints k1, he'⟩), rfl, q _ _ k2 k3 (I1.hok.fresh (Nat.le_refl _))⟩
  have hb : b < h'.objs.size := Heap.lt_size e
  rw [PyProof.Rows.sortedHeap_old (Nat.ne_of_lt hb) (by rw [size_push']; exact Nat.lt_succ_of_lt hb)]
  exact Heap.get?_push_of_some _ e
end

/-! ### sorted(d) -/
def fSortD : List D → M D := f1 fun d ih => ((getKvs d ih).bind fun kvs => asInts (kvs.map (·.1))).map fun is => .lst ((sortI is).map .int)
section
variable {T : List (Addr × Str)} {X : Cx} {e : Expr} {p pos : Pos} {ms : Env → M (List D)}
theorem vn_sortD : VN X.K X.w X.mg T fSortD (rSortedD X) := vn1 fun θ H ih d e x Q h r he q => by
  obtain ⟨is, e1, rfl⟩ := mapNone he
  obtain ⟨kvs, e2, e3⟩ := bindNone e1
  obtain ⟨a, ys, rfl, hD, rs⟩ := getKvs_dh h r e2
  obtain ⟨ps, p1, p2, p3, p4⟩ := pairs_of_int (P := X.prog) rs e3
  refine ⟨a, ys, ps, is, rfl, hD.at_, hD.sys, hD.few, ?_, p1, p2, p3, fun ns' p h1 h2 hp => ?_⟩
  · have := hD.nd
    rw [p4] at this
    exact nodup_map _ (fun _ _ e => by injection e) this
  · rw [sortI_of h1 h2]
    exact q θ _ _ (.new hp) (h.new hp) (.lst (h.free_new hp) (.of upd_same) (ints_rd _))
theorem se_sortD (hc : X.calm = true) (hg : Gl X "sorted") (hm : X.mg "sorted" = none) (ha : SA T X [e] ms) (hs : starEach [e] X.env = (false, eval e X.env) :: starEach [] X.env := by rfl) (hpl : (backTo pos (starEach [] X.env)).any (·.1) = false := by rfl) : SE T X (.Call (.Name "sorted" p) [e] [] pos) (xArgs fSortD ms) :=
  se_callB vn_sortD (cr_sortedD hc) hg hm (by decide +kernel) ha (hs := hs) (hpl := hpl)
end

/-! ### tuple(list): a tuple known to the object -/
def fTupleX : List D → M D := f1 fun d ih => (listOf d ih).map fun ds => .tupx ds
section
variable {T : List (Addr × Str)} {X : Cx} {e : Expr} {p pos : Pos} {ms : Env → M (List D)}
def rTupleX (K : PySem.W.Frag) : List V → Hp → VK → Prop := fun xs H Q => ∃ p ys, xs = [.ref p] ∧ SqL K H p ys ∧ ∀ l ob, H l = none → ob.dict = none → Q (.ref l) (upd H l (.frz ob (.tup ys)))
theorem cr_tupleX : CallR X (.type "tuple") (rTupleX X.K) := by
  intro pins s σ H xs us Q I r h
  obtain ⟨p, ys, rfl, hq, q⟩ := h
  obtain ⟨u, rfl, rx⟩ := vals1 r
  cases rx
  obtain ⟨its, r', pl, hz⟩ := I.list hq
  have hlen := r'.length
  refine call_tuple_list pl.isList (fun h' kp => ?_) (by simp only [List.size_toArray] <;> omega)
  have I1 : Inv X pins σ H { s with heap := h' } := I.kept (t' := s.toks) kp
  have I2 : Inv X pins σ (upd H h'.objs.size (.frz { cls := .type "tuple", data := .seq its.toArray } (.tup ys))) { s with heap := h'.push { cls := .type "tuple", data := .seq its.toArray } } :=
    I1.laid (t' := s.toks) (fun b o e => Heap.get?_push_of_some _ e) (Nat.le_refl _) (show ObjOk X.prog X.w _ _ _ (.frz _ (.tup ys)) from ⟨Heap.get?_push_size _ rfl, hz, its, r', IsTup.new _ _⟩)
  exact ⟨.ref h'.objs.size, _, I2, rfl, q _ _ (I1.hok.fresh (Nat.le_refl _)) rfl⟩
theorem vn_tupleX {K : PySem.W.Frag} {w : World} {mg : Str → Option Value} : VN K w mg T fTupleX (rTupleX K) := vn1 fun θ H ih d e x Q h r he q => by
  obtain ⟨ds, e1, rfl⟩ := mapNone he
  obtain ⟨a, vs, rfl, hq, rs⟩ := listOf_ok h r e1
  exact ⟨a, vs, rfl, hq, fun l ob hl ho => q θ _ _ (.new hl) (h.new hl) (.tupx upd_same ho (rs.mono (.new hl)))⟩
theorem se_tupleX (hg : Gl X "tuple") (hm : X.mg "tuple" = none) (ha : SA T X [e] ms) (hs : starEach [e] X.env = (false, eval e X.env) :: starEach [] X.env := by rfl) (hpl : (backTo pos (starEach [] X.env)).any (·.1) = false := by rfl) : SE T X (.Call (.Name "tuple" p) [e] [] pos) (xArgs fTupleX ms) :=
  se_callTy vn_tupleX cr_tupleX hg hm (by decide +kernel) ha (hs := hs) (hpl := hpl)
end

/-! ### dict(pairs), the pairs a tuple known to the object -/
def pairsD : List D → Option (List (Int × D))
  | [] => some []
  | .tup [.int i, d] :: ds => (pairsD ds).map fun r => (i, d) :: r
  | _ :: _ => none
def fDictX : List D → M D := f1 fun d _ => match d with
  | .tupx ds => (pairsD ds).bind fun r => if (r.map (·.1)).Nodup then some (.dct (r.map fun p => .int p.1) (r.map (·.2))) else none
  | _ => none
section
variable {X : Cx}
theorem pairs3 {pins : List (Addr × Obj)} {σ : L2.St} {H : Hp} {s : Shared} (I : Inv X pins σ H s) : ∀ {bs : List Addr} {kvs : List (Key × V)}, Paired (fun p kv => SqT X.K H p [kV kv.1, kv.2]) bs kvs →
    ∃ (ps : List (Value × Value)) (prs : List (Key × Value)), KV kvs prs ∧ ps.length = bs.length ∧ prs.length = bs.length ∧
      ∀ (j : Nat) (p : Value × Value), ps[j]? = some p → ∃ (b : Addr) (k : Key), bs[j]? = some b ∧ prs[j]? = some (k, p.2) ∧ IsTup s.heap b #[p.1, p.2] ∧ keyIs k p.1 = true
  | _, _, .nil => ⟨[], [], .nil, rfl, rfl, fun j q e => by simp at e⟩
  | _, _, .cons (a := p) (b := kv) h t => by
    obtain ⟨ps, prs, r, hl, hl2, hp⟩ := pairs3 I t
    obtain ⟨its, rv, ht, _⟩ := I.tuple h
    obtain ⟨u, y, ei, ru, ry⟩ := vals2 rv
    subst ei
    refine ⟨(u, y) :: ps, (kv.1, y) :: prs, .cons ⟨rfl, ry⟩ r, by rw [List.length_cons, List.length_cons, hl], by rw [List.length_cons, List.length_cons, hl2], fun j q e => ?_⟩
    cases j with
    | zero =>
      have e' : (u, y) = q := Option.some.inj e
      subst e'
      exact ⟨p, kv.1, rfl, rfl, ht, kV_is (P := X.prog) (w := X.w) ru⟩
    | succ j =>
      obtain ⟨b, k, e1, e2, e3, e4⟩ := hp j q (by simpa using e)
      exact ⟨b, k, by simpa using e1, by simpa using e2, e3, e4⟩
def rDictX (K : PySem.W.Frag) (w : World) : List V → Hp → VK → Prop := fun xs H Q => ∃ (a : Addr) (ob : Obj) (bs : List Addr) (kvs : List (Key × V)), xs = [.ref a] ∧ H a = some (.frz ob (.tup (bs.map V.ref))) ∧ ob.dict = none ∧ Paired (fun p kv => SqT K H p [kV kv.1, kv.2]) bs kvs ∧ (kvs.map (·.1)).Nodup ∧
  ∀ p od ys, H p = none → KEnt kvs ys → ys.length ≤ sizeLine → (p == sysModules) = false → Q (.ref p) (upd H p (.frz od (.ext (DAt w p ys))))
theorem cr_dictX (hcalm : X.calm = true) : CallR X (.type "dict") (rDictX X.K X.w) := by
  intro pins s σ H xs us Q I r q
  obtain ⟨a, ob, bs, kvs, ex, ha, hob, hp, hnd, q⟩ := q
  subst ex
  obtain ⟨u, eu, rx⟩ := vals1 r
  subst eu
  cases rx
  obtain ⟨hget, hz, its, rv, ⟨o', ho', hc', n', hd'⟩⟩ := I.hok a _ ha
  rw [hget] at ho'
  cases ho'
  have ei := refs_at rv
  subst ei
  rw [List.length_map] at hz
  obtain ⟨ps, prs, rel, hl, hl2, hpr⟩ := pairs3 I hp
  have hnd2 : (prs.map (·.1)).Nodup := by rw [← rel.keys]; exact hnd
  have ok : PlainSeq "tuple" s.heap a (bs.map Value.ref).toArray ∧ PairItems s.heap (bs.map Value.ref).toArray (fun j => bs.getD j 0) ps := by
    refine ⟨⟨ob, n', hget, hc', hob, hd'⟩, by simp [hl], fun j k v e => ?_⟩
    obtain ⟨b, k', e1, e2, e3, e4⟩ := hpr j (k, v) e
    have eb : bs.getD j 0 = b := by rw [List.getD_eq_getElem?_getD, e1]; rfl
    refine ⟨?_, .inl ?_⟩
    · show _ = some (Value.ref (bs.getD j 0))
      rw [eb]
      simp [e1]
    · show s.heap.IsTuple (bs.getD j 0) _
      rw [eb]
      exact e3
  refine PySem.call_dict_pairs (knd := mixKind X.prog X.w) (kvs := prs) (PairArg.tuple a _ (fun j => bs.getD j 0) ps) (I.ok.hd hcalm) ok ⟨by rw [hl, hl2], fun j key v e => ?_⟩ (by rw [hl]; exact hz) fun h' tk hd' k => ?_
  · obtain ⟨b, k', e1, e2, e3, e4⟩ := hpr j (key, v) e
    exact ⟨k', e2, e4⟩
  · have hm : (s.heap.objs.size == sysModules) = false := beq_eq_false_iff_ne.mpr (Nat.ne_of_gt I.big)
    rw [merged_nil_of_nodup prs hnd2] at hd'
    have hlk : kvs.length ≤ sizeLine := by rw [rel.length, hl2]; exact hz
    have I1 : Inv X pins σ (upd H s.heap.objs.size (.dK kvs)) { s with heap := h', toks := tk } := I.laid (t' := tk) (fun b o e => k b o (by simp) e) (Nat.le_refl _) (show ObjOk X.prog X.w _ _ _ (.dK kvs) from ⟨hlk, hm, prs, rel, hd'⟩)
    obtain ⟨ys, g1, g2, g3, g4, I2⟩ := inv_dk I1 upd_same
    obtain ⟨od, I3⟩ := I2.lock upd_same trivial
    rw [upd_upd, upd_upd] at I3
    exact ⟨.ref s.heap.objs.size, _, I3, rfl, q _ od ys (I.hok.fresh (Nat.le_refl _)) g1 g3 hm⟩
end
section
variable {K : PySem.W.Frag} {w : World} {mg : Str → Option Value} {T : List (Addr × Str)} {θ : Th} {H : Hp}
theorem pairsD_ok : ∀ {ds : List D} {vs : List V} {r : List (Int × D)}, RDs K w θ H ds vs → pairsD ds = some r → ∃ (bs : List Addr) (kvs : List (Key × V)), vs = bs.map V.ref ∧ Paired (fun p kv => SqT K H p [kV kv.1, kv.2]) bs kvs ∧ kvs.map (·.1) = r.map (fun p => Sum.inl p.1) ∧ RDs K w θ H (r.map (·.2)) (kvs.map (·.2))
  | [], _, r, .nil, e => by
    cases e
    exact ⟨[], [], rfl, .nil, rfl, .nil⟩
  | d :: ds, v :: vs, r, .cons h t, e => by
    unfold pairsD at e
    split at e
    · contradiction
    · rename_i i d1 ds1 heq
      cases heq
      obtain ⟨r1, e1, rfl⟩ := mapNone e
      obtain ⟨bs, kvs, g1, g2, g3, g4⟩ := pairsD_ok t e1
      cases h with
      | @tup _ b _ hq rs =>
        cases rs with
        | cons h1 rs =>
          cases rs with
          | cons h2 rs =>
            cases rs
            cases h1
            exact ⟨b :: bs, (.inl i, _) :: kvs, by rw [List.map_cons, g1], .cons hq g2, by rw [List.map_cons, List.map_cons, g3], .cons h2 g4⟩
    · cases e
theorem hkey_int (i : Int) : hkey (.int i) = some (.num i) := by
  unfold hkey
  rw [keyOf, Option.bind_some, if_pos]
  rw [NestedKey.depth]
  decide
theorem res_kent {kvs : List (Key × V)} {ys : List Ent} (hk : KEnt kvs ys) : ∀ {r : List (Int × D)}, kvs.map (·.1) = r.map (fun p => (Sum.inl p.1 : Key)) → RDs K w θ H (r.map (·.2)) (kvs.map (·.2)) → REs K w θ H (r.map fun p => .int p.1) (r.map (·.2)) ys := by
  induction hk with
  | nil =>
    intro r e t
    cases r with
    | nil => exact .nil
    | cons p r => simp at e
  | @cons k v ku vu kvs ys h1 h2 h3 ih =>
    intro r e t
    cases r with
    | nil => simp at e
    | cons p r =>
      rw [List.map_cons, List.map_cons] at e
      injection e with e1 e2
      have e1' : k = .inl p.1 := e1
      subst e1'
      rw [List.map_cons, List.map_cons] at t
      cases t with
      | cons t1 t2 => exact .cons (k := .num p.1) (kv := .int p.1) (hkey_int _) (.int p.1) h1 t1 h2 (ih e2 t2)
theorem vn_dictX : VN K w mg T fDictX (rDictX K w) := vn1 fun θ H ih d e x Q h r he q => by
  split at he
  · rename_i ds
    obtain ⟨rr, e1, e2⟩ := bindNone he
    split at e2
    · rename_i hnd
      cases e2
      cases r with
      | @tupx _ a vs ob z z1 rs =>
        obtain ⟨bs, kvs, rfl, g2, g3, g4⟩ := pairsD_ok rs e1
        refine ⟨a, ob, bs, kvs, rfl, z, z1, g2, ?_, fun p od ys hp hk hz hs => ?_⟩
        · rw [g3]
          have e3 : (rr.map fun p => (Sum.inl p.1 : Key)) = (rr.map (·.1)).map Sum.inl := by rw [List.map_map]; rfl
          rw [e3]
          exact map_nodup _ (fun _ _ e => by injection e) hnd
        · have ev : Ev θ H θ (upd H p (.frz od (.ext (DAt w p ys)))) := .new hp
          have hk2 : (ys.map (·.1)).Nodup := by
            rw [hk.keys, g3]
            have e3 : (rr.map fun p => (Sum.inl p.1 : Key)) = (rr.map (·.1)).map Sum.inl := by rw [List.map_map]; rfl
            rw [e3]
            exact nodup_nk (map_nodup _ (fun _ _ e => by injection e) hnd)
          exact q θ _ _ ev (h.new hp) (.dct (h.free_new hp) upd_same hs hz hk2 (REs.mono ev (res_kent hk g3 g4)))
    · cases e2
  · cases he
end
section
variable {T : List (Addr × Str)} {X : Cx} {e : Expr} {p pos : Pos} {ms : Env → M (List D)}
theorem se_dictX (hc : X.calm = true) (hg : Gl X "dict") (hm : X.mg "dict" = none) (ha : SA T X [e] ms) (hs : starEach [e] X.env = (false, eval e X.env) :: starEach [] X.env := by rfl) (hpl : (backTo pos (starEach [] X.env)).any (·.1) = false := by rfl) : SE T X (.Call (.Name "dict" p) [e] [] pos) (xArgs fDictX ms) :=
  se_callTy vn_dictX (cr_dictX hc) hg hm (by decide +kernel) ha (hs := hs) (hpl := hpl)
end

/-! ### {'k': v, ..} as a handle -/
theorem mergeK_fresh (acc more : List (Key × V)) (hn : ((acc ++ more).map (·.1)).Nodup) : mergeK acc more = acc ++ more := by
  induction more generalizing acc with
  | nil => simp [mergeK]
  | cons kv rest ih =>
    have hfresh : ¬ (acc.any fun x => decide (x.1 = kv.1)) = true := by
      rw [List.any_eq_true]; rintro ⟨x, hx, he⟩
      rw [List.map_append, List.map_cons, List.nodup_append] at hn
      exact hn.2.2 x.1 (List.mem_map.mpr ⟨x, hx, rfl⟩) kv.1 List.mem_cons_self (of_decide_eq_true he)
    have : mergeK acc (kv :: rest) = mergeK (acc ++ [kv]) rest := by
      simp only [mergeK, List.foldl_cons, putK, if_neg hfresh]
    rw [this, ih (acc ++ [kv]) (by simpa using hn)]
    simp
section
variable {K : PySem.W.Frag} {w : World} {mg : Str → Option Value} {T : List (Addr × Str)} {θ θ' : Th} {H H' : Hp}
theorem RO.later (c : Lat θ H θ' H') {a : Addr} {o : IO} (h : RO K w mg θ H a o) (ha : ∀ u, H a = some u → H' a = some u) : RO K w mg θ' H' a o := by
  cases h with
  | lst h r => exact .lst (ha _ h) (RDs.lat c r)
  | dct h h1 h2 h3 r => exact .dct (ha _ h) h1 h2 h3 (REs.lat c r)
  | lck h h1 h2 h3 r => exact .lck (ha _ h) h1 h2 h3 (REs.lat c r)
  | ins h1 h2 h3 r => exact .ins h1 (ha _ h2) h3 (RDs.lat c r)
theorem lat_give {h b : List Addr} {p : Addr} : Lat ⟨h, p :: b⟩ H ⟨h ++ [p], b⟩ H := by
  refine ⟨⟨[p], rfl⟩, fun a o f e _ => ⟨e, fun hm => ?_, fun hm => f.2 (List.mem_cons_of_mem _ hm)⟩, fun a o e _ => e⟩
  rcases List.mem_append.mp hm with hm | hm
  · exact f.1 hm
  · exact f.2 (by rw [List.mem_singleton.mp hm]; exact List.mem_cons_self)
/-- what was in the making gets a handle -/
theorem RH.give {h b : List Addr} {p : Addr} {ih : IH} {o : IO} (r : RH K w mg T ⟨h, p :: b⟩ H ih) (hp : p ∉ b) (ho : RO K w mg ⟨h ++ [p], b⟩ H p o) : RH K w mg T ⟨h ++ [p], b⟩ H (ih ++ [o]) := by
  have hph : p ∉ h := (r.bon p List.mem_cons_self).1
  refine ⟨fun q hq => ?_, fun c hc => ?_, by show (h ++ [p]).length = (ih ++ [o]).length; rw [List.length_append, List.length_append, r.len] <;> rfl, ?_, fun n a o' h1 h2 => ?_⟩
  · obtain ⟨ps, h1, h2, h3⟩ := r.tab q hq
    refine ⟨ps, h1, h2, fun pos cv hc => ?_⟩
    obtain ⟨c, e1, e2, e3⟩ := h3 pos cv hc
    exact ⟨c, e1, (lat_give.fr c _ e2 e3 rfl).2, e3⟩
  · obtain ⟨h1, v, h2, h3⟩ := r.bon c (List.mem_cons_of_mem _ hc)
    refine ⟨fun hm => ?_, v, h2, h3⟩
    rcases List.mem_append.mp hm with hm | hm
    · exact h1 hm
    · rw [List.mem_singleton.mp hm] at hc
      exact hp hc
  · show (h ++ [p]).Nodup
    rw [List.nodup_append]
    refine ⟨r.nd, by simp, fun a ha b hb => ?_⟩
    rw [List.mem_singleton.mp hb]
    rintro rfl
    exact hph ha
  · have h1 : (h ++ [p])[n]? = some a := h1
    have hlen : h.length = ih.length := r.len
    by_cases hn : n < h.length
    · rw [List.getElem?_append_left hn] at h1
      rw [List.getElem?_append_left (by rw [← hlen]; exact hn)] at h2
      exact RO.later lat_give (r.at_ n a o' h1 h2) fun u hu => hu
    · rw [List.getElem?_append_right (by omega)] at h1
      rw [List.getElem?_append_right (by omega)] at h2
      have e0 : n - h.length = 0 := by
        have := (List.getElem?_eq_some_iff.mp h1).1
        simp at this
        omega
      rw [e0] at h1
      rw [← hlen, e0] at h2
      simp at h1 h2
      subst h1 h2
      exact ho
end
inductive SPs (T : List (Addr × Str)) (X : Cx) : List (Option Expr) → List Expr → List Str → (Env → M (List D)) → Prop
  | nil : SPs T X [] [] [] xNil
  | cons {x : Str} {j : Nat} {p : Pos} {v : Expr} {mv : Env → M D} {ks : List (Option Expr)} {vs : List Expr} {xs : List Str} {ms : Env → M (List D)} : SE T X v mv → SPs T X ks vs xs ms → SPs T X (some (.Constant (.str x) j p) :: ks) (v :: vs) (x :: xs) (xCons mv ms)
def xDisp (xs : List Str) (ms : Env → M (List D)) : Env → M D := fun ρ ih => (ms ρ ih).bind fun q => if xs.Nodup ∧ q.1.length = xs.length then some (.obj q.2.length, q.2 ++ [.dct ((xs.map D.str).zip q.1)]) else none
section
variable {T : List (Addr × Str)} {X : Cx} {pos : Pos}
theorem sps_pairs : ∀ {ks : List (Option Expr)} {vs : List Expr} {xs : List Str} {ms : Env → M (List D)}, SPs T X ks vs xs ms → ∃ trs, PPs X pos ks vs trs ∧ ks.all (·.isSome) = true ∧ ks.length = vs.length ∧ ks.length = xs.length ∧
    ∀ (σ : L2.St) (H : Hp) (Q : List (V × V) → Hp → Prop), simA X.K X.w X.mg T ms σ H (fun us H1 => us.length = xs.length → Q ((xs.map V.str).zip us) H1) → tPairs trs σ H Q
  | _, _, _, _, .nil => ⟨[], pps_nil, rfl, rfl, rfl, fun σ H Q q => by
      obtain ⟨θ, ρ, ih, d, ih', h1, h2, h3, h4⟩ := q
      cases h3
      exact h4 θ H [] (.refl _ _) h1 .nil rfl⟩
  | _, _, _, _, .cons (x := x) (mv := mv) (ms := ms) hv t => by
    obtain ⟨trs, h1, h2, h3, h4, h5⟩ := sps_pairs t
    refine ⟨_ :: trs, pps_cons pe_str hv h1, by rw [List.all_cons, h2]; rfl, by rw [List.length_cons, List.length_cons, h3], by rw [List.length_cons, List.length_cons, h4], fun σ H Q q => ?_⟩
    obtain ⟨θ, ρ, ih, d, ih', g1, g2, g3, g4⟩ := q
    obtain ⟨p, e1, e2⟩ := bindNone g3
    obtain ⟨r, e3, e4⟩ := bindNone e2
    cases e4
    refine ⟨θ, ρ, ih, _, _, g1, g2, e1, fun θ1 H1 y ev q1 r1 => ?_⟩
    refine h5 σ H1 _ ⟨θ1, ρ, p.2, _, _, q1, g2.mono ev, e3, fun θ2 H2 us ev2 q2 r2 hl => ?_⟩
    exact g4 θ2 H2 (y :: us) (ev.trans ev2) q2 (.cons (r1.mono ev2) r2) (by rw [List.length_cons, List.length_cons, hl])
theorem kent_str {K : PySem.W.Frag} {w : World} {θ : Th} {H : Hp} : ∀ {xs : List Str} {ds : List D} {us : List V} {ys : List Ent}, us.length = xs.length → RDs K w θ H ds us → KEnt ((xs.map (Sum.inr : Str → Key)).zip us) ys → REs K w θ H (xs.map D.str) ds ys
  | [], _, [], _, _, .nil, .nil => .nil
  | [], _, _ :: _, _, hl, _, _ => by simp at hl
  | _ :: _, _, [], _, hl, _, _ => by simp at hl
  | x :: xs, d :: ds, u :: us, _ :: ys, hl, .cons r1 r2, .cons h1 h2 h3 => by
    exact .cons (k := .text x) (kv := .str x) rfl (.str x) h1 r1 h2 (kent_str (by simpa using hl) r2 h3)
theorem se_disp {ks : List (Option Expr)} {vs : List Expr} {xs : List Str} {ms : Env → M (List D)} (h : SPs T X ks vs xs ms) (h0 : ks ≠ [] := by simp) (h15 : ks.length ≤ 15 := by decide) : SE T X (.Dict ks vs pos) (xDisp xs ms) := by
  obtain ⟨trs, p1, p2, p3, p4, p5⟩ := sps_pairs (pos := pos) h
  refine (pe_dkA (pe_disp p1 p2 p3 h0 h15)).le fun σ H Q q => ?_
  obtain ⟨θ, ρ, ih, d, ih', h1, h2, h3, h4⟩ := q
  obtain ⟨r, e1, e2⟩ := bindNone h3
  split at e2
  · rename_i hc
    cases e2
    intro p hp
    obtain ⟨c, q1⟩ := Acc.lay (u := .dK []) h1 hp rfl
    refine p5 σ _ _ ⟨_, ρ, ih, r.1, r.2, q1, RE.acc c h2, e1, fun θ2 H2 us ev q2 r2 hl => ?_⟩
    obtain ⟨l, rfl, hnew⟩ := ev.pre
    have hph : p ∉ θ.h := (h1.free_new hp).1
    have hpb : p ∉ θ.b := (h1.free_new hp).2
    have hp2 : H2 p = some (.dK []) := ev.fr p _ upd_same (.inl ⟨hph, rfl⟩)
    have hpn : p ∉ θ.h ++ l := (q2.bon p List.mem_cons_self).1
    have hln : ∀ a ∈ l, H a = none := fun a ha => by
      have := hnew a ha
      rw [upd_ne (fun e => hpn (by rw [← e]; exact List.mem_append_right _ ha))] at this
      exact this
    refine ⟨hp2, (xs.map (Sum.inr : Str → Key)).zip us, ?_, ?_, ?_⟩
    · have : ∀ (xs : List Str) (us : List V), ((xs.map V.str).zip us) = ((xs.map (Sum.inr : Str → Key)).zip us).map fun kv => (kV kv.1, kv.2) := by
        intro xs
        induction xs with
        | nil => intro us; rfl
        | cons x xs ih =>
          intro us
          cases us with
          | nil => rfl
          | cons u us => rw [List.map_cons, List.zip_cons_cons, ih us]; rfl
      exact this xs us
    · rw [List.length_zip, List.length_map]
      omega
    · refine ⟨p, _, rfl, upd_same, fun ys hk hnd hz hs => ?_⟩
      have hkn : (((xs.map (Sum.inr : Str → Key)).zip us).map (·.1)).Nodup := by
        rw [(zip_fst (by rw [List.length_map]; exact hl)).1]
        exact map_nodup _ (fun _ _ e => by injection e) hc.1
      rw [mergeK_fresh [] _ (by simpa using hkn), List.nil_append] at hk hnd
      rw [upd_upd]
      obtain ⟨c3, q3⟩ := Acc.put (u' := .ext (DAt X.w p ys)) q2 List.mem_cons_self hp2 rfl rfl
      have r3 := RDs.lat lat_give (RDs.acc c3 r2)
      have hyn : (ys.map (·.1)).Nodup := by rw [hk.keys]; exact nodup_nk hkn
      have hres := kent_str hl r3 hk
      have hzip := zip_fst (ks := xs.map D.str) (vs := r.1) (by rw [List.length_map]; exact hc.2)
      have q4 := RH.give (o := .dct ((xs.map D.str).zip r.1)) q3 hpb (.dct upd_same hs hz hyn (by rw [hzip.1, hzip.2]; exact hres))
      refine h4 ⟨(θ.h ++ l) ++ [p], θ.b⟩ _ (.ref p) ⟨⟨l ++ [p], by rw [List.append_assoc], fun a ha => ?_⟩, fun a o e z => ?_, fun a o e => ?_⟩ q4 (.obj ?_)
      · rcases List.mem_append.mp ha with ha | ha
        · exact hln a ha
        · rw [List.mem_singleton.mp ha]; exact hp
      · have n := ne_of_none e hp
        rw [upd_ne n]
        exact ev.fr a o (by rw [upd_ne n]; exact e) z
      · have n := ne_of_none e hp
        rw [upd_ne n]
        exact ev.on a o (by rw [upd_ne n]; exact e)
      · show ((θ.h ++ l) ++ [p])[r.2.length]? = some p
        have : (θ.h ++ l).length = r.2.length := q2.len
        rw [← this, List.getElem?_append_right (Nat.le_refl _)]
        simp
  · cases e2
end
end Gh
end
section
set_option Elab.async false
set_option linter.all false
set_option maxRecDepth 100000
/-! sorted(d.items(), key=lambda pair: pair[0]) -/
namespace Gh
open PySem PySem.Spec PyProof.Rows L2

section
variable {prog : Program} {w : World} {A : Around} {s : Shared} {f c' tp : Addr} {qual x : Str} {params : Arguments} {scope : Scope} {cl : List (Str × Addr)} {pm ctv u : Value} {i : Int} {t : Tok} {j : Nat} {p1 p2 p3 : Pos}
/-- the lambda's names: its parameter -/
structure LamP (x : Str) (scope : Scope) : Prop where
  kind : scope.kind = .function
  co : scope.isCoroutine = false
  gen : scope.isGenerator = false
  own : ∀ y ∈ scope.names, y.2 ≠ .cell
  free : ∀ y ∈ scope.names, y.2 ≠ .free
  loc : scope.names.lookup x = some .local
/-- (lambda x: x[0])(tp), tp a tuple whose first is an int -/
theorem lam_first (L : LamP x scope) (hd : (x == ("__debug__" : Str)) = false) (hr : A.depth < recursionLimit)
    (ho : s.heap.get? f = some (PySem.W.kla_obj "<lambda>" qual params (.Subscript (.Name x p1) (.Constant (.int 0) j p2) p3) scope cl pm c' ctv))
    (hbind : ∀ v, bindArgs (PySem.W.kla_fn "<lambda>" qual params (.Subscript (.Name x p1) (.Constant (.int 0) j p2) p3) scope cl pm (.ref c') ctv) ⟨[v], []⟩ = pure [(x, v)])
    (hc : ∃ (oc : Obj) (vs : Array Value) (t : Tok), s.heap.get? c' = some oc ∧ oc.data = .fields vs ∧ vs[1]? = some (.str qual t)) (nl : s.heap.NoLimit) (ht : IsTup s.heap tp #[.int i t, u]) :
    wpAny (model prog w) A (call (.ref f) [.ref tp]) (PySem.W.KeyPure (.int i) s) (fun _ _ => False) s := by
  obtain ⟨oc, vs, tq, hoc, hdc, hvc⟩ := hc
  refine wpAny_call (PySem.W.kla_callFunE hr ho rfl L.co L.gen rfl ⟨c', oc, vs, tq, rfl, hoc, hdc, hvc⟩ ?_)
  rw [hbind]
  refine wpAny_pure (wpAny_newFunctionEnv L.own (fun y hy => ?_) (fun h₁ hns hsb => ⟨nl.fresh _ hsb, ?_⟩) L.kind)
  · rw [List.mem_singleton.mp hy]
    exact L.loc
  have kp : ∀ b o, s.heap.get? b = some o → h₁.get? b = some o := fun b o e => hsb.extBut b o (Nat.ne_of_lt (Heap.lt_size e)) (Heap.get?_push_of_some _ e)
  refine PySem.W.kla_codeExpr ?_
  refine Subscript_ (wpAny_Name (wpAny_loadName_local L.kind L.loc hns (v := .ref tp) (by simp) (wpAny_Constant_int ?_)) hd)
  have pl : IsTup h₁ tp #[.int i t, u] := ht.keeps kp
  refine subscriptTail_builtinR (x := .int i t) pl.typeIs slot_tuple_getitem.lookup
    (getItem_tuple (j := 0) (Q := fun r s' => r = .int i t ∧ PySem.W.KeyPure (.int i) s r s') pl (by decide) (by decide) (by rfl) (by rfl) ⟨rfl, ?_⟩) (by rfl)
  exact ⟨h₁, _, rfl, kp, .int i t⟩
end

/-! ### d.items() -/
section
variable {X : Cx}
def rItemsA (w : World) : V → List V → Hp → VK → Prop := fun x xs H Q => ∃ (a : Addr) (ys : List Ent), x = .ref a ∧ xs = [] ∧ Rd H a (.ext (DAt w a ys)) ∧ (a == sysModules) = false ∧ ∀ p, H p = none → Q (.ref p) (upd H p (L2.DX.itemsO p a))
theorem mt_itemsA : MtR X "dict.items" (rItemsA X.w) := by
  intro pins s σ H x xs v us Q I rx rxs h
  obtain ⟨a, ys, rfl, rfl, ha, hd, q⟩ := h
  cases rx
  cases rxs
  obtain ⟨o, es, ep, ho, hx, hdat, _⟩ := (ha.ok I.hok).1
  refine DT.callItems (es := es) (ep := ep) hd ⟨o, ho, hx, hdat⟩ ?_
  have hf : H s.heap.objs.size = none := I.hok.fresh (Nat.le_refl _)
  exact ⟨.ref s.heap.objs.size, upd H s.heap.objs.size (L2.DX.itemsO s.heap.objs.size a), I.laid (t' := s.toks) (fun b u e => Heap.get?_push_of_some _ e) (Nat.le_refl _) (L2.DX.itemsO_ok (Heap.get?_push_size _ rfl)), rfl, q _ hf⟩

/-! ### the sort -/
/-- entries by ints -/
inductive IntE : List (Int × V) → List Ent → Prop
  | nil : IntE [] []
  | cons {i : Int} {t : Tok} {v : V} {vu : Value} {k : NestedKey} {kvs : List (Int × V)} {ys : List Ent} : RelV v vu → IntE kvs ys → IntE ((i, v) :: kvs) ((k, .int i t, vu) :: ys)
theorem IntE.len : ∀ {kvs : List (Int × V)} {ys : List Ent}, IntE kvs ys → ys.length = kvs.length
  | _, _, .nil => rfl
  | _, _, .cons _ r => by rw [List.length_cons, List.length_cons, r.len]
theorem IntE.get : ∀ {kvs : List (Int × V)} {ys : List Ent} {j : Nat} {y : Ent}, IntE kvs ys → ys[j]? = some y → ∃ i t v, kvs[j]? = some (i, v) ∧ y.2.1 = .int i t ∧ RelV v y.2.2
  | _, _, _, _, .nil, h => by simp at h
  | _, _, 0, _, .cons r _, h => by
    simp at h
    subst h
    exact ⟨_, _, _, rfl, rfl, r⟩
  | _, _, j + 1, _, .cons _ r, h => by
    obtain ⟨i, t, v, h1, h2⟩ := r.get (j := j) (by simpa using h)
    exact ⟨i, t, v, by simpa using h1, h2⟩
def leP {α : Type} (a b : Int × α) : Bool := decide (a.1 ≤ b.1)
def sortP {α : Type} (l : List (Int × α)) : List (Int × α) := l.mergeSort leP
theorem sort_keyed {pins : List (Addr × Obj)} {σ : L2.St} {H : Hp} {s : Shared} {p a f c' : Addr} {ys : List Ent} {kvs : List (Int × V)} {Q : VK} {qual x : Str} {params : Arguments} {scope : Scope} {cl : List (Str × Addr)} {pm ctv : Value} {j0 : Nat} {p1 p2 p3 : Pos} (I : Inv X pins σ H s)
    (hp : H p = some (L2.DX.itemsO p a)) (ha : Rd H a (.ext (DAt X.w a ys))) (hz : ys.length ≤ sizeLine) (hk : IntE kvs ys) (hcalm : X.calm = true) (hu : X.A.units + 64 < cLine) (hr : X.A.depth < recursionLimit)
    (L : LamP x scope) (hd : (x == ("__debug__" : Str)) = false) (ho : s.heap.get? f = some (PySem.W.kla_obj "<lambda>" qual params (.Subscript (.Name x p1) (.Constant (.int 0) j0 p2) p3) scope cl pm c' ctv))
    (hbind : ∀ v, bindArgs (PySem.W.kla_fn "<lambda>" qual params (.Subscript (.Name x p1) (.Constant (.int 0) j0 p2) p3) scope cl pm (.ref c') ctv) ⟨[v], []⟩ = pure [(x, v)]) (hc : H c' = some (LamX.CodeO c' qual))
    (q : ∀ (H' : Hp) (l : Addr) (zs : List (Addr × (Int × V))), (∀ b o, H b = some o → H' b = some o) → zs.map (·.2) = sortP kvs → H l = none → H' l = some (.lst (zs.map fun z => V.ref z.1)) → (∀ z ∈ zs, H' z.1 = some (.tup [.int z.2.1, z.2.2])) → Q (.ref l) H') :
    wpAny (model X.prog X.w) X.A (call (.builtin "sorted") [.ref p] [(Str.ofString "key", .ref f)]) (EP X pins σ Q) X.xe s := by
  have view : s.heap.IsItemsView p a := (show ObjOk X.prog X.w H s.heap p (L2.DX.itemsO p a) from I.hok p _ hp).1
  obtain ⟨o, es, ep, hob, hx, hdat, hes⟩ := (ha.ok I.hok).1
  have hh : X.A.handled = none := I.ok.hd hcalm
  have hsz : es.size = ys.length := by rw [← Array.length_toList, hes, List.length_map]
  refine call_function_entry_kw kind_sorted plain_sorted entry_sorted (ksk_s1 _ _) ?_
  unfold Builtin.«sorted»
  refine wpAny_bind (m := checkCount "sorted" 1 1 _) (wpAny_pure ?_)
  refine wpAny_bind (DT.collectI (A := X.A.in1) (es := es) (ep := ep) hh view ⟨o, hob, hx, hdat⟩ (by omega) fun h' tk as hkeep hlt hl hG => ?_)
  have lak : as.length = kvs.length := by rw [hl, hsz, hk.len]
  have hzk : (as.map Value.ref).length ≤ sizeLine := by rw [List.length_map, lak, ← hk.len]; exact hz
  have nd : as.Nodup := List.Pairwise.imp (fun h => Nat.ne_of_lt h) hG.rise
  -- the pairs that were made
  have pr : ∀ (j : Nat) (b : Addr), as[j]? = some b → ∃ (i : Int) (t : Tok) (v : V) (u : Value), kvs[j]? = some (i, v) ∧ RelV v u ∧ h'.get? b = some { cls := .type "tuple", data := .seq #[.int i t, u] } := by
    intro j b hj
    obtain ⟨en, he, hg⟩ := hG.pairs j b hj
    rw [← Array.getElem?_toList, hes, List.getElem?_map] at he
    cases hyj : ys[j]? with
    | none => rw [hyj] at he; cases he
    | some y =>
      rw [hyj] at he
      have een : ent X.w y = en := Option.some.inj he
      obtain ⟨i, t, v, k1, k2, k3⟩ := hk.get hyj
      refine ⟨i, t, v, y.2.2, k1, k3, ?_⟩
      rw [hg, ← een]
      show some ({ cls := .type "tuple", data := .seq #[y.2.1, y.2.2] } : Obj) = _
      rw [k2]
  refine wpAny_bind (wpAny_newList ?_ hzk)
  have hoL : (h'.push (seqObj "list" (as.map Value.ref).toArray 0)).get? h'.objs.size = some (seqObj "list" (as.map Value.ref).toArray 0) := Heap.get?_push_size _ rfl
  have ne0 : ∀ b o, h'.get? b = some o → b ≠ h'.objs.size := fun b o e => Nat.ne_of_lt (Heap.lt_size e)
  have kb : ∀ b o, h'.get? b = some o → (h'.push (seqObj "list" (as.map Value.ref).toArray 0)).get? b = some o := fun b o e => Heap.get?_push_of_some _ e
  have e1 : PySem.W.EachIs (fun v (z : Addr × (Int × V)) => v = Value.ref z.1 ∧ z ∈ as.zip kvs) (as.map Value.ref) (as.zip kvs) := by
    have : ∀ {as : List Addr} {kvs : List (Int × V)} {B : List (Addr × (Int × V))}, as.length = kvs.length → (∀ z ∈ as.zip kvs, z ∈ B) → PySem.W.EachIs (fun v (z : Addr × (Int × V)) => v = Value.ref z.1 ∧ z ∈ B) (as.map Value.ref) (as.zip kvs) := by
      intro as
      induction as with
      | nil => intro kvs B h hB; cases kvs with
        | nil => exact .nil
        | cons _ _ => simp at h
      | cons b as ih => intro kvs B h hB; cases kvs with
        | nil => simp at h
        | cons kv kvs => exact .cons ⟨rfl, hB _ (by simp)⟩ (ih (by simpa using h) fun z hz => hB z (by simp [hz]))
    exact this lak fun z hz => hz
  have lz : (as.zip kvs).length = kvs.length := by rw [List.length_zip]; omega
  show wpAny _ _ _ _ _ { s with heap := h'.push (seqObj "list" (as.map Value.ref).toArray 0), toks := tk }
  refine wpAny_bind (wpAny_holding (PySem.W.list_sort_key_data (s := { s with heap := h'.push (seqObj "list" (as.map Value.ref).toArray 0), toks := tk }) (b := false) (fun z : Addr × (Int × V) => PyData.int z.2.1) hoL e1
    (PySem.W.AllAlike.of fun _ _ => by simp [PySem.W.alike]) (PySem.W.Sortable.others fun _ => ⟨nofun, nofun⟩) (by rw [lz, ← hk.len]; exact hz) (fun z _ => ?_) (ksk_l1 _ _) (ksk_t1 _ _) (fun v z hv hzm h2 tk2 kp2 => ?_) fun out c h2 tk2 kp2 hD hol ho2 => ?_))
  · show X.A.units + 1 + 1 + (PyData.int z.2.1).depth < cLine
    rw [PyData.depth]
    omega
  · -- the key of one pair
    obtain ⟨rfl, _⟩ := hv
    obtain ⟨j, hj⟩ := List.mem_iff_getElem?.mp hzm
    obtain ⟨hj1, hj2⟩ := List.getElem?_zip_eq_some.mp hj
    obtain ⟨i, t, v, u, k1, k2, k3⟩ := pr j z.1 hj1
    rw [k1] at hj2
    have ez : (i, v) = z.2 := Option.some.inj hj2
    have st : ∀ b o, h'.get? b = some o → h2.get? b = some o := fun b o e => kp2 b o (ne0 b o e) (kb b o e)
    obtain ⟨oc, vs, tq, hoc, hdc, hvc⟩ := (show ∃ (oc : Obj) (vs : Array Value) (t : Tok), s.heap.get? c' = some oc ∧ oc.data = .fields vs ∧ vs[1]? = some (.str qual t) from (I.hok c' _ hc).1)
    have := lam_first (prog := X.prog) (w := X.w) (A := X.A.in1.in1) (s := { s with heap := h2, toks := tk2 }) (tp := z.1) (i := i) (t := t) (u := u) L hd hr (st _ _ (hkeep _ _ ho)) hbind ⟨oc, vs, tq, st _ _ (hkeep _ _ hoc), hdc, hvc⟩ ((I.nolimit.keeps hkeep).keeps st)
      ⟨_, st _ _ k3, rfl, 0, rfl⟩
    rw [← ez]
    exact this
  · rw [PySem.W.dataLe_int (fun z : Addr × (Int × V) => z.2.1)] at ho2
    refine wpAny_pure ⟨_, rfl, ?_⟩
    have st : ∀ b o, h'.get? b = some o → h2.get? b = some o := fun b o e => kp2 b o (ne0 b o e) (kb b o e)
    have kS : ∀ b o, s.heap.get? b = some o → h2.get? b = some o := fun b o e => st b o (hkeep b o e)
    generalize hzs : ((as.zip kvs).mergeSort fun a b => decide (a.2.1 ≤ b.2.1)) = zs at ho2
    have hperm : zs.Perm (as.zip kvs) := by rw [← hzs]; exact List.mergeSort_perm _ _
    have hmap : zs.map (·.2) = sortP kvs := by
      rw [← hzs, PySem.W.sort_maps (r := fun a b : Addr × (Int × V) => decide (a.2.1 ≤ b.2.1)) (s := leP) (fun z : Addr × (Int × V) => z.2) (fun _ _ _ _ => rfl), List.map_snd_zip (by omega)]
      rfl
    have hout : out = zs.map fun z => Value.ref z.1 := by
      clear hzs hperm hmap hol hD
      induction ho2 with
      | nil => rfl
      | cons h _ ih => rw [List.map_cons, h.1, ih]
    have I1 : Inv X pins σ H { s with heap := h2, toks := tk2 } := I.kept (t' := tk2) kS
    have hn0 : H h'.objs.size = none := I.hok.fresh (Nat.le_of_lt hlt)
    have hlen : (zs.map fun z => V.ref z.1).length ≤ sizeLine := by
      rw [List.length_map, hperm.length_eq, lz, ← hk.len]
      exact hz
    have rv : Vals (zs.map fun z => V.ref z.1) out := by
      rw [hout]
      exact vals_maps (fun z : Addr × (Int × V) => V.ref z.1) (fun z => Value.ref z.1) zs fun _ _ => rfl
    have I2 : Inv X pins σ (upd H h'.objs.size (.lst (zs.map fun z => V.ref z.1))) { s with heap := h2, toks := tk2 } :=
      I1.take (h' := h2) (t' := tk2) (fun b ob _ e => e) (I.fpOk (Nat.le_of_lt hlt) hn0) ⟨hlen, out, c, rv, hD⟩
    obtain ⟨H2, I3, g, qt⟩ := L2.DX.takeT (P := fun b vs => ∃ (j : Nat) (i : Int) (v : V), as[j]? = some b ∧ kvs[j]? = some (i, v) ∧ vs = [.int i, v]) I as _ I2 nd fun b hb => by
      obtain ⟨j, hj⟩ := List.mem_iff_getElem?.mp hb
      obtain ⟨i, t, v, u, k1, k2, k3⟩ := pr j b hj
      have hbl : s.heap.objs.size ≤ b := Nat.le_of_lt (hG.above b hb)
      refine ⟨hbl, ?_, [.int i, v], ⟨j, i, v, hj, k1, rfl⟩, fun H3 => ⟨(by rw [sizeLine_eq]; show 2 ≤ 16777216; omega), [Value.int i t, u], .cons ⟨t, rfl⟩ (.cons k2 .nil), ⟨_, st _ _ k3, rfl, 0, rfl⟩⟩⟩
      rw [upd_ne (ne0 _ _ k3)]
      exact I.hok.fresh hbl
    have gr : ∀ b o, H b = some o → H2 b = some o := fun b o e => g b o (by rw [upd_ne (ne_of_none e hn0)]; exact e)
    refine ⟨.ref h'.objs.size, H2, I3, rfl, q H2 h'.objs.size zs gr hmap hn0 (g _ _ upd_same) fun z hzm => ?_⟩
    obtain ⟨j, hj⟩ := List.mem_iff_getElem?.mp (hperm.mem_iff.mp hzm)
    obtain ⟨hj1, hj2⟩ := List.getElem?_zip_eq_some.mp hj
    obtain ⟨vs, ⟨j', i, v, k1, k2, k3⟩, k4⟩ := qt z.1 (List.mem_of_getElem? hj1)
    have ej : j' = j := (List.getElem?_inj (List.getElem?_eq_some_iff.mp k1).1 nd).mp (k1.trans hj1.symm)
    subst ej
    rw [hj2] at k2
    have e2 : z.2 = (i, v) := Option.some.inj k2
    rw [e2, k4, k3]
end

/-! ### the lambda is made -/
section
variable {X : Cx} {pins : List (Addr × Obj)} {σ : L2.St} {H : Hp} {s : Shared}
/-- the heap behind a lambda: its code object was found, or is new and stands in the table -/
inductive Lamd (H : Hp) (P c' : Addr) (q : Str) (ps : Array Value) : Hp → Prop
  | hit : H c' = some (LamX.CodeO c' q) → Lamd H P c' q ps H
  | new {ps' : Array Value} : H c' = none → TriplesOk ps'.toList → (∀ pos cv, codeAmong pos ps'.toList = some cv → codeAmong pos ps.toList = some cv ∨ cv = .ref c') → Lamd H P c' q ps (upd (upd H P (.tbl ps')) c' (LamX.CodeO c' q))
theorem lam_makeA {c P : Addr} {ps : Array Value} {params : Arguments} {body : Expr} {scope : Scope} {pos : Pos} {E : Value → Shared → Prop} {Q : Value → Shared → Prop} (I : Inv X pins σ H s) (TB : LamX.TabB X.base X.mg c P) (hcode : X.env.code = .ref c)
    (hP : H P = some (.tbl ps)) (ht : TriplesOk ps.toList) (ha : ∀ (pos : Pos) (cv : Value), codeAmong pos ps.toList = some cv → ∃ c, cv = .ref c ∧ H c = some (LamX.CodeO c (X.env.qual ++ "<lambda>")))
    (hdef : defaultsOf params X.env = ([], [])) (hfree : ∀ y ∈ scope.names, y.2 = .free → ∃ c, X.env.cells.lookup y.1 = some c)
    (h : ∀ (f c' : Addr) (pm ctv : Value) (H1 : Hp) (s' : Shared), Inv X pins σ H1 s' → Lamd H P c' (X.env.qual ++ "<lambda>") ps H1 →
      s'.heap.get? f = some (PySem.W.kla_obj "<lambda>" (X.env.qual ++ "<lambda>") params body scope (cloFrom X.env.cells scope.names []) pm c' ctv) → Q (.ref f) s') :
    wpAny (model X.prog X.w) X.A (eval (.Lambda params body scope pos) X.env) Q E s := by
  refine PySem.W.kla_eval hdef ?_
  have bP : s.heap.BuiltinsAt X.mg P := TB.bm.keeps I.bk
  have hP' : s.heap.get? P = some { cls := .none, data := .fields ps } := I.hok P _ hP
  cases hc : codeAmong pos ps.toList with
  | none =>
    refine PySem.W.kla_makeFunction (mg := X.mg) (c := c) (P := P) (ps := ps) (closure_ok hfree) I.ok.glob (I.mod.glob.keeps I.bk) hcode (TB.code.keeps I.bk) hP' ht hc TB.gP bP fun c' ctv h' tk hx hge hlt hrec htb => ?_
    obtain ⟨c2, oc, vs, t, e2, hoc, hd, hv⟩ := hrec
    cases e2
    have nC : H c' = none := I.hok.fresh hge
    have I1 := LamX.inv_table (t' := tk) (more := #[rawInt pos.line, rawInt pos.col, .ref c']) (h' := h'.push (PySem.W.kla_obj "<lambda>" (X.env.qual ++ "<lambda>") params body scope (cloFrom X.env.cells scope.names []) ((X.mg "__name__").getD .none) c' ctv)) I hP
      (fun b o hb e => Heap.get?_push_of_some _ (hx b o hb e)) (Heap.get?_push_of_some _ htb) hge ⟨oc, vs, t, Heap.get?_push_of_some _ hoc, hd, hv⟩
    have eL : (ps ++ #[rawInt pos.line, rawInt pos.col, .ref c']).toList = ps.toList ++ [rawInt pos.line, rawInt pos.col, .ref c'] := by simp
    refine h h'.objs.size c' ((X.mg "__name__").getD .none) ctv _ _ I1 (.new nC (by rw [eL]; exact PySem.TriplesOk_snoc _ _ _ _ ht) fun p' cv hcv => ?_) (Heap.get?_push_size _ rfl)
    rw [eL] at hcv
    exact LamX.among_app _ ht hcv
  | some cv =>
    obtain ⟨c', e, hco⟩ := ha pos cv hc
    subst e
    refine PySem.W.kla_makeFunctionHit (mg := X.mg) (c := c) (P := P) (ps := ps) (closure_ok hfree) I.ok.glob (I.mod.glob.keeps I.bk) hcode (TB.code.keeps I.bk) hP' ht hc bP fun ctv h' tk hx hsz => ?_
    have I1 : Inv X pins σ H { s with heap := h'.push (PySem.W.kla_obj "<lambda>" (X.env.qual ++ "<lambda>") params body scope (cloFrom X.env.cells scope.names []) ((X.mg "__name__").getD .none) c' ctv), toks := tk } := I.kept fun b o e => Heap.get?_push_of_some _ (hx b o e)
    exact h h'.objs.size c' ((X.mg "__name__").getD .none) ctv H _ I1 (.hit hco) (Heap.get?_push_size _ rfl)
end
section
variable {K : PySem.W.Frag} {w : World} {mg : Str → Option Value} {T : List (Addr × Str)} {θ : Th} {H H' : Hp}
theorem RH.tabs {ih : IH} (h : RH K w mg T θ H ih) (e : Ev θ H θ H') (hs : ∀ a o, H a = some o → isTbl o = false → H' a = some o) (t : TabR T θ H') : RH K w mg T θ H' ih := by
  refine ⟨t, fun b hb => ?_, h.len, h.nd, fun n a o h1 h2 => (h.at_ n a o h1 h2).mono e fun u hu => hs a u hu ((h.at_ n a o h1 h2).isTbl hu)⟩
  obtain ⟨h1, o, h2, h3⟩ := h.bon b hb
  exact ⟨h1, o, hs _ _ h2 h3, h3⟩
/-- all that stood goes on standing -/
theorem Ev.grow (hs : ∀ a o, H a = some o → H' a = some o) : Ev θ H θ H' := ⟨⟨[], by simp, by simp⟩, fun a o e _ => hs a o e, fun a o e => ⟨o, hs a o e, rfl⟩⟩
theorem lamd_rh {ih : IH} {P c' : Addr} {q : Str} {ps : Array Value} (h : RH K w mg T θ H ih) (hm : (P, q) ∈ T) (hu : ∀ p ∈ T, p.1 = P → p.2 = q) (hP : H P = some (.tbl ps)) (l : Lamd H P c' q ps H') :
    RH K w mg T θ H' ih ∧ Ev θ H θ H' ∧ (∀ a o, H a = some o → isTbl o = false → H' a = some o) ∧ H' c' = some (LamX.CodeO c' q) := by
  cases l with
  | hit hc => exact ⟨h, .refl _ _, fun _ _ e _ => e, hc⟩
  | @new ps' hn ht ha =>
    have nP : ∀ a o, H a = some o → isTbl o = false → a ≠ P := fun a o e t z => by
      rw [z, hP] at e
      cases e
      cases t
    have nPm : ∀ a o, H a = some o → isMut o = false → a ≠ P := fun a o e t z => by
      rw [z, hP] at e
      cases e
      cases t
    have hs : ∀ a o, H a = some o → isTbl o = false → upd (upd H P (.tbl ps')) c' (LamX.CodeO c' q) a = some o := fun a o e t => by
      rw [upd_ne (ne_of_none e hn), upd_ne (nP a o e t)]
      exact e
    have hPc : P ≠ c' := ne_of_none hP hn
    have ev : Ev θ H θ (upd (upd H P (.tbl ps')) c' (LamX.CodeO c' q)) := by
      refine ⟨⟨[], by simp, by simp⟩, fun a o e z => ?_, fun a o e => ?_⟩
      · rcases z with z | z
        · exact hs a o e z.2
        · rw [upd_ne (ne_of_none e hn), upd_ne (nPm a o e z)]
          exact e
      · by_cases hp : a = P
        · subst hp
          rw [hP] at e
          cases e
          exact ⟨.tbl ps', by rw [upd_ne hPc, upd_same], rfl⟩
        · exact ⟨o, by rw [upd_ne (ne_of_none e hn), upd_ne hp]; exact e, rfl⟩
    have hnf : θ.free c' := h.free_new hn
    refine ⟨h.tabs ev hs fun p hp => ?_, ev, hs, upd_same⟩
    obtain ⟨ps0, t1, t2, t3⟩ := h.tab p hp
    by_cases e : p.1 = P
    · rw [e] at t1 ⊢
      rw [hP] at t1
      cases t1
      rw [hu p hp e] at t3 ⊢
      refine ⟨ps', by rw [upd_ne hPc, upd_same], ht, fun pos cv hcv => ?_⟩
      rcases ha pos cv hcv with z | z
      · obtain ⟨x, e1, e2, e3⟩ := t3 pos cv z
        exact ⟨x, e1, e2, hs _ _ e3 rfl⟩
      · exact ⟨c', z, hnf, upd_same⟩
    · refine ⟨ps0, ?_, t2, fun pos cv hcv => ?_⟩
      · rw [upd_ne (ne_of_none t1 hn), upd_ne e]
        exact t1
      · obtain ⟨x, e1, e2, e3⟩ := t3 pos cv hcv
        exact ⟨x, e1, e2, hs _ _ e3 rfl⟩
theorem intE_of : ∀ {ks vs : List D} {ys : List Ent} {is : List Int}, REs K w θ H ks vs ys → asInts ks = some is → ∃ us, IntE (is.zip us) ys ∧ RDs K w θ H vs us ∧ us.length = is.length
  | _, _, _, is, .nil, e => by
    cases e
    exact ⟨[], .nil, .nil, rfl⟩
  | kd :: ks, vd :: vs, (k, ku, vu) :: ys, is, .cons h1 h2 h3 h4 h5 r, e => by
    unfold asInts at e
    obtain ⟨i, e1, e2⟩ := bindNone e
    obtain ⟨is', e3, e4⟩ := mapNone e2
    subst e4
    obtain ⟨us, g1, g2, g3⟩ := intE_of r e3
    cases kd with
    | int j =>
      cases e1
      cases h2
      obtain ⟨t, rfl⟩ := h3
      exact ⟨_ :: us, .cons h5 g1, .cons h4 g2, by rw [List.length_cons, List.length_cons, g3]⟩
    | _ => cases e1
/-- the pairs, sorted, as data -/
theorem sortP_rd : ∀ {is : List Int} {ds : List D} {us : List V}, RDs K w θ H ds us → us.length = is.length → PySem.W.EachIs (fun (a : Int × V) (b : Int × D) => a.1 = b.1 ∧ RD K w θ H b.2 a.2) (sortP (is.zip us)) (sortP (is.zip ds)) := by
  intro is ds us r hl
  have e : PySem.W.EachIs (fun (a : Int × V) (b : Int × D) => a.1 = b.1 ∧ RD K w θ H b.2 a.2) (is.zip us) (is.zip ds) := by
    induction is generalizing ds us with
    | nil => exact .nil
    | cons i is ih =>
      cases r with
      | nil => simp at hl
      | cons h t => exact .cons ⟨rfl, h⟩ (ih t (by simpa using hl))
  exact PySem.W.sort_each e fun p hp q hq => by
    have a1 := (e.zip p hp).1
    have a2 := (e.zip q hq).1
    unfold leP
    rw [a1, a2]
end

/-! ### the whole expression -/
def fSortK (d : D) : M D := fun ih => (getKvs d ih).bind fun kvs => (asInts (kvs.map (·.1))).map fun is => (.lst ((sortP (is.zip (kvs.map (·.2)))).map fun p => .tup [.int p.1, p.2]), ih)
section
variable {T : List (Addr × Str)} {X : Cx} {o : Expr} {mo : Env → M D} {x : Str} {P c : Addr} {params : Arguments} {scope : Scope} {p pos apos cpos lpos kp p1 p2 p3 : Pos} {j : Nat}
theorem se_sortK (hc : X.calm = true) (hu : X.A.units + 64 < cLine) (hr : X.A.depth < recursionLimit) (hg : Gl X "sorted") (hm : X.mg "sorted" = none) (ho : SE T X o mo) (TB : LamX.TabB X.base X.mg c P) (hcode : X.env.code = .ref c)
    (hmT : (P, X.env.qual ++ "<lambda>") ∈ T) (huT : ∀ p ∈ T, p.1 = P → p.2 = X.env.qual ++ "<lambda>") (L : LamP x scope) (hd : (x == ("__debug__" : Str)) = false) (hdef : defaultsOf params X.env = ([], []))
    (hbind : ∀ (q : Str) (cl : List (Str × Addr)) (pm cv ctv v : Value), bindArgs (PySem.W.kla_fn "<lambda>" q params (.Subscript (.Name x p1) (.Constant (.int 0) j p2) p3) scope cl pm cv ctv) ⟨[v], []⟩ = pure [(x, v)])
    (hbase : attributeBase o "items" X.env (eval o X.env) = eval o X.env := by rfl) (hline : (apos.endLine == cpos.line) = true := by rfl)
    (hall : (backToKw pos (keywordEach [⟨some "key", .Lambda params (.Subscript (.Name x p1) (.Constant (.int 0) j p2) p3) scope lpos, kp⟩] X.env)).all (·.1.isSome) = true := by rfl)
    (hnone : (backToKw pos (keywordEach [⟨some "key", .Lambda params (.Subscript (.Name x p1) (.Constant (.int 0) j p2) p3) scope lpos, kp⟩] X.env)).any (·.1.isNone) = false := by rfl)
    (hks : (backToKw pos (keywordEach [⟨some "key", .Lambda params (.Subscript (.Name x p1) (.Constant (.int 0) j p2) p3) scope lpos, kp⟩] X.env)).filterMap (·.1) = [Str.ofString "key"] := by rfl)
    (he : backTo pos (starEach [.Call (.Attribute o "items" apos) [] [] cpos] X.env) = (false, eval (.Call (.Attribute o "items" apos) [] [] cpos) X.env) :: backTo pos (starEach [] X.env) := by rfl)
    (hst : starEach [.Call (.Attribute o "items" apos) [] [] cpos] X.env = (false, eval (.Call (.Attribute o "items" apos) [] [] cpos) X.env) :: starEach [] X.env := by rfl)
    (hpl : (backTo pos (starEach [.Call (.Attribute o "items" apos) [] [] cpos] X.env)).any (·.1) = false := by rfl) :
    SE T X (.Call (.Name "sorted" p) [.Call (.Attribute o "items" apos) [] [] cpos] [⟨some "key", .Lambda params (.Subscript (.Name x p1) (.Constant (.int 0) j p2) p3) scope lpos, kp⟩] pos) (xUn fSortK mo) := by
  have hI : PE X (.Call (.Attribute o "items" apos) [] [] cpos) _ := pe_bmX0 tyD_ok PySem.F.plainAttrs_dict PySem.F.slot_dict_items PySem.F.type_dict_items (mt_itemsA (X := X)) ho hbase hline
  refine ⟨fun pins s σ H Q I hq => ?_⟩
  obtain ⟨θ, ρ, ih, d, ih', h1, h2, h3, h4⟩ := hq
  obtain ⟨r, g1, g2⟩ := bindNone h3
  obtain ⟨kvs, g3, g4⟩ := bindNone g2
  obtain ⟨is, g5, g6⟩ := mapNone g4
  cases g6
  refine wpAny_Call_Name_kw (ld_blt I hg hm PyProof.Rows.boot_sorted ?_ (by decide) (by decide))
  refine PyProof.Rows.callWith_kw (thn ((pa_cons hI pa_nil hst).run pos pins s σ H (fun vs H1 => ∃ (θ1 : Th) (H0 : Hp) (v p0 : Addr) (ys : List Ent) (us : List V), vs = [.ref p0] ∧ Ev θ H θ1 H0 ∧ RH X.K X.w X.mg T θ1 H0 r.2 ∧ H0 p0 = none ∧ H1 = upd H0 p0 (L2.DX.itemsO p0 v) ∧
    Rd H0 v (.ext (DAt X.w v ys)) ∧ ys.length ≤ sizeLine ∧ IntE (is.zip us) ys ∧ RDs X.K X.w θ1 H0 (kvs.map (·.2)) us ∧ us.length = is.length) I ?_) fun us s1 ⟨vs, H1, I1, r1, q1⟩ => ?_) he hpl hall hnone
  · -- the items
    refine ⟨θ, ρ, ih, _, _, h1, h2, g1, fun θ1 H0 x0 ev q1 r1 => ?_⟩
    obtain ⟨a, ys, rfl, hD, rs⟩ := getKvs_dh q1 r1 g3
    obtain ⟨us, k1, k2, k3⟩ := intE_of rs g5
    refine ⟨⟨a, ys, rfl, hD⟩, a, ys, rfl, rfl, hD.at_, hD.sys, fun p0 hp0 => ?_⟩
    exact ⟨θ1, H0, a, p0, ys, us, rfl, ev, q1, hp0, rfl, hD.at_, hD.few, k1, k2, k3⟩
  · obtain ⟨θ1, H0, a, p0, ys, vs', rfl, ev1, q1, hp0, rfl, hat, hz, hk, rs, hl⟩ := q1
    obtain rfl := Vals.ref1 r1
    rw [hks]
    have q2 := q1.new (u := L2.DX.itemsO p0 a) hp0
    have ev2 : Ev θ1 H0 θ1 (upd H0 p0 (L2.DX.itemsO p0 a)) := .new hp0
    obtain ⟨ps, t1, t2, t3⟩ := q2.tab _ hmT
    refine kwAll_cons (lam_makeA I1 TB hcode t1 t2 (fun pos cv hcv => ?_) hdef (fun y hy e => absurd e (L.free y hy)) fun f c' pm ctv H2 s2 I2 hl2 hf => kwAll_nil ?_)
    · obtain ⟨y, e1, _, e3⟩ := t3 pos cv hcv
      exact ⟨y, e1, e3⟩
    · obtain ⟨q3, ev3, hs3, hc3⟩ := lamd_rh q2 hmT huT t1 hl2
      have hv2 : H2 p0 = some (L2.DX.itemsO p0 a) := hs3 _ _ upd_same rfl
      have hat2 : Rd H2 a (.ext (DAt X.w a ys)) := by
        rcases hat with z | ⟨ob, z⟩
        · exact .inl (hs3 _ _ (by rw [upd_ne (ne_of_none z hp0)]; exact z) rfl)
        · exact .inr ⟨ob, hs3 _ _ (by rw [upd_ne (ne_of_none z hp0)]; exact z) rfl⟩
      refine sort_keyed I2 hv2 hat2 hz hk hc hu hr L hd hf (fun v => hbind _ _ _ _ _ v) hc3 fun H3 l zs gr hzs hln hlst htup => ?_
      have ev4 : Ev θ1 H2 θ1 H3 := .grow gr
      have q4 := q3.same ev4 gr
      have ev : Ev θ H θ1 H3 := ev1.trans (ev2.trans (ev3.trans ev4))
      refine h4 θ1 H3 _ ev q4 (.lst (q3.free_new hln |> fun z => ⟨z.1, z.2⟩) (.of hlst) ?_)
      have r3 : RDs X.K X.w θ1 H3 (kvs.map (·.2)) vs' := rs.mono (ev2.trans (ev3.trans ev4))
      have es := sortP_rd (is := is) r3 hl
      rw [← hzs] at es
      clear hzs hlst
      generalize sortP (is.zip (kvs.map (·.2))) = zd at es
      induction zs generalizing zd with
      | nil =>
        cases es
        exact .nil
      | cons z zs ihz =>
        rw [List.map_cons] at es
        cases es with
        | @cons _ b _ bs e1 e2 =>
          rw [List.map_cons, List.map_cons]
          refine .cons (.tup (.of (htup z List.mem_cons_self)) (.cons (by rw [e1.1]; exact .int _) (.cons e1.2 .nil))) (ihz (fun y hy => htup y (List.mem_cons_of_mem _ hy)) bs e2)
end

/-! ### a, b, c = x, y, z -/
def yPar3 (i j l : Nat) (ms : Env → M (List D)) : MS := fun ρ ih => (ms ρ ih).bind fun r => match r.1 with
  | [a, b, c] => some (.nx, ((ρ.set i (some a)).set j (some b)).set l (some c), r.2)
  | _ => none
section
variable {T : List (Addr × Str)} {X : Cx} {i j l : Nat} {x y z : Str} {a b c : Expr} {px py pz pt pos pt2 : Pos} {kt k2 : Nat} {ms : Env → M (List D)}
theorem ss_par3 (hc : X.calm = true) (hN : X.N.Nodup) (hi : X.N[i]? = some x) (hj : X.N[j]? = some y) (hl : X.N[l]? = some z) (hij : i ≠ j) (hil : i ≠ l) (hjl : j ≠ l)
    (hx : X.env.scope.names.lookup x = some .local) (hy : X.env.scope.names.lookup y = some .local) (hz : X.env.scope.names.lookup z = some .local) (ha : SA T X [a, b, c] ms)
    (hw : swappedStores [.Tuple [.Name x px, .Name y py, .Name z pz] kt pt] (.Tuple [a, b, c] k2 pt2) X.env = pure (some [x, y, z]))
    (hs : swapsWithSole [.Tuple [.Name x px, .Name y py, .Name z pz] kt pt] (.Tuple [a, b, c] k2 pt2) pos.line X.env = pure false := by rfl) :
    SS T X (.Assign [.Tuple [.Name x px, .Name y py, .Name z pz] kt pt] (.Tuple [a, b, c] k2 pt2) pos) (yPar3 i j l ms) := PS.le (ps_par3 hc hN hi hj hl hij hil hjl hx hy hz ha hw hs) fun D σ H q => by
  obtain ⟨θ, ρ, ih, g, ρ', ih', h1, h2, h3, h4⟩ := q
  obtain ⟨r, e1, e2⟩ := bindNone h3
  refine ⟨θ, ρ, ih, _, _, h1, h2, e1, fun θ1 H1 vs ev q1 r1 => ?_⟩
  obtain ⟨ds, ih1⟩ := r
  simp only at e2 r1
  split at e2
  · cases e2
    cases r1 with
    | cons ra r1 =>
      cases r1 with
      | cons rb r1 =>
        cases r1 with
        | cons rc r1 =>
          cases r1
          exact ⟨_, _, _, rfl, h4 θ1 H1 _ ev q1 (((h2.mono ev).set ra i |> fun z => z.set rb j) |> fun z => z.set rc l)⟩
  · cases e2
end
end Gh
end
section
set_option Elab.async false
set_option linter.all false
set_option maxRecDepth 100000
/-! k67: the defs, their runs. Printed by gen.py. -/
namespace Gh.K67
open PySem PySem.Spec PyProof.Rows L2
def top (i : Nat) : Stmt := PySem.Challenge.pw_grovehouse_k67_whole_lattice_of_terms.main.body.getD i (.Pass ⟨0, 0, 0, 0⟩)
def meth (i j : Nat) : Stmt := match top i with
  | .ClassDef _ _ _ body .. => body.getD j (.Pass ⟨0, 0, 0, 0⟩)
  | s => s
abbrev Run := List D → M D
inductive Fn where
  | is_variable | term_size | variables_of | put_in | pairs_of | matched | match_ | tidy_term | is_variant | generalized | joint_term | Closure_init | Closure_note | Closure_go_on | Closure_clash | Closure_edges | Closure_circle | Closure_value | Closure_filled | cut_steps | renumbered | unify | makes_equal | law_tape | law_take | law_term | law_values | law_moved | law
def nm : Fn → Str
  | .is_variable => "is_variable"
  | .term_size => "term_size"
  | .variables_of => "variables_of"
  | .put_in => "put_in"
  | .pairs_of => "pairs_of"
  | .matched => "matched"
  | .match_ => "match"
  | .tidy_term => "tidy_term"
  | .is_variant => "is_variant"
  | .generalized => "generalized"
  | .joint_term => "joint_term"
  | .Closure_init => "__init__"
  | .Closure_note => "note"
  | .Closure_go_on => "go_on"
  | .Closure_clash => "clash"
  | .Closure_edges => "edges"
  | .Closure_circle => "circle"
  | .Closure_value => "value"
  | .Closure_filled => "filled"
  | .cut_steps => "cut_steps"
  | .renumbered => "renumbered"
  | .unify => "unify"
  | .makes_equal => "makes_equal"
  | .law_tape => "_law_tape"
  | .law_take => "_law_take"
  | .law_term => "_law_term"
  | .law_values => "_law_values"
  | .law_moved => "_law_moved"
  | .law => "law"
def ql : Fn → Str
  | .is_variable => "is_variable"
  | .term_size => "term_size"
  | .variables_of => "variables_of"
  | .put_in => "put_in"
  | .pairs_of => "pairs_of"
  | .matched => "matched"
  | .match_ => "match"
  | .tidy_term => "tidy_term"
  | .is_variant => "is_variant"
  | .generalized => "generalized"
  | .joint_term => "joint_term"
  | .Closure_init => "Closure.__init__"
  | .Closure_note => "Closure.note"
  | .Closure_go_on => "Closure.go_on"
  | .Closure_clash => "Closure.clash"
  | .Closure_edges => "Closure.edges"
  | .Closure_circle => "Closure.circle"
  | .Closure_value => "Closure.value"
  | .Closure_filled => "Closure.filled"
  | .cut_steps => "cut_steps"
  | .renumbered => "renumbered"
  | .unify => "unify"
  | .makes_equal => "makes_equal"
  | .law_tape => "_law_tape"
  | .law_take => "_law_take"
  | .law_term => "_law_term"
  | .law_values => "_law_values"
  | .law_moved => "_law_moved"
  | .law => "law"
def stt : Fn → Stmt
  | .is_variable => top 1
  | .term_size => top 2
  | .variables_of => top 3
  | .put_in => top 4
  | .pairs_of => top 5
  | .matched => top 6
  | .match_ => top 7
  | .tidy_term => top 8
  | .is_variant => top 9
  | .generalized => top 10
  | .joint_term => top 11
  | .Closure_init => meth 13 0
  | .Closure_note => meth 13 1
  | .Closure_go_on => meth 13 2
  | .Closure_clash => meth 13 3
  | .Closure_edges => meth 13 4
  | .Closure_circle => meth 13 5
  | .Closure_value => meth 13 6
  | .Closure_filled => meth 13 7
  | .cut_steps => top 14
  | .renumbered => top 15
  | .unify => top 16
  | .makes_equal => top 17
  | .law_tape => top 19
  | .law_take => top 20
  | .law_term => top 21
  | .law_values => top 22
  | .law_moved => top 23
  | .law => top 24
def prm : Fn → List Str
  | .is_variable => ["term"]
  | .term_size => ["term"]
  | .variables_of => ["term"]
  | .put_in => ["term", "values"]
  | .pairs_of => ["values"]
  | .matched => ["pattern", "term", "values"]
  | .match_ => ["pattern", "term"]
  | .tidy_term => ["term"]
  | .is_variant => ["first", "second"]
  | .generalized => ["first", "second"]
  | .joint_term => ["first", "second", "numbers"]
  | .Closure_init => ["self", "pairs"]
  | .Closure_note => ["self", "first", "second", "why"]
  | .Closure_go_on => ["self", "at"]
  | .Closure_clash => ["self"]
  | .Closure_edges => ["self"]
  | .Closure_circle => ["self"]
  | .Closure_value => ["self", "variable", "known"]
  | .Closure_filled => ["self", "term", "known"]
  | .cut_steps => ["steps", "last"]
  | .renumbered => ["step", "numbers"]
  | .unify => ["pairs"]
  | .makes_equal => ["pairs", "values"]
  | .law_tape => ["script"]
  | .law_take => ["tape", "many"]
  | .law_term => ["tape", "depth", "shift"]
  | .law_values => ["tape", "term"]
  | .law_moved => ["term", "shift"]
  | .law => ["script"]
noncomputable def r_is_variable (c c1 : Fn → Run) : Run := bodyM 1 1 (yRet (xUn fIsInt (xVar 0)))
noncomputable def r_term_size (c c1 : Fn → Run) : Run := bodyM 1 2 (ySeq (yIf (tVal (xArgs (c .is_variable) (xCons (xVar 0) xNil))) (yRet (xC (.int 1))) yNext) (yRet (xBin fAdd (xC (.int 1)) (xArgs fSum (xCons (xCompL (xSrc srcAny (xSl (xVar 0) (xPart (xC (.int 1))) xNoPart)) [1] (gNm 1) tTrue (emL (xArgs (c .term_size) (xCons (xVar 1) xNil)))) xNil)))))
noncomputable def r_variables_of (c c1 : Fn → Run) : Run := pureM (bodyM 1 4 (ySeq (ySet 1 xDnewH) (ySeq (ySet 2 (xArgs fLstH (xCons (xVar 0) xNil))) (ySeq (yWhile (tTru (xVar 2)) (ySeq (ySet 3 (xMethC isLstH fPop (xVar 2) xNil)) (yIf (tVal (xArgs (c .is_variable) (xCons (xVar 3) xNil))) (yAsg (xC (.bl true)) (gSb (xVar 1) (xVar 3) wSetD)) (yExpr (xMethC isLstH fExtend (xVar 2) (xCons (xSl (xVar 3) (xPart (xC (.int 1))) xNoPart) xNil)))))) (yRet (xArgs fSortD (xCons (xVar 1) xNil)))))))
noncomputable def r_put_in (c c1 : Fn → Run) : Run := bodyM 2 3 (ySeq (yIf (tVal (xArgs (c .is_variable) (xCons (xVar 0) xNil))) (yRet (xMethC isDctA fGet (xVar 1) (xCons (xVar 0) (xCons (xVar 0) xNil)))) yNext) (yRet (xBin fAdd (xArgs fTup (xCons (xBin fIx (xVar 0) (xC (.int 0))) xNil)) (xArgs fTuple (xCons (xCompL (xSrc srcAny (xSl (xVar 0) (xPart (xC (.int 1))) xNoPart)) [2] (gNm 2) tTrue (emL (xArgs (c .put_in) (xCons (xVar 2) (xCons (xVar 1) xNil))))) xNil)))))
noncomputable def r_pairs_of (c c1 : Fn → Run) : Run := bodyM 1 1 (yRet (xArgs fTupleX (xCons (xUn fSortK (xVar 0)) xNil)))
noncomputable def r_matched (c c1 : Fn → Run) : Run := bodyM 3 5 (ySeq (yIf (tVal (xArgs (c .is_variable) (xCons (xVar 0) xNil))) (ySeq (yIf (tVal (xBin fInD (xVar 0) (xVar 2))) (yRet (xBin fEq (xBin fIx (xVar 2) (xVar 0)) (xVar 1))) yNext) (ySeq (yAsg (xVar 1) (gSb (xVar 2) (xVar 0) wSetD)) (yRet (xC (.bl true))))) yNext) (ySeq (yIf (tOr2 (tVal (xArgs (c .is_variable) (xCons (xVar 1) xNil))) (tOr2 (tVal (xBin fNe (xBin fIx (xVar 0) (xC (.int 0))) (xBin fIx (xVar 1) (xC (.int 0))))) (tVal (xBin fNe (xArgs fLen (xCons (xVar 0) xNil)) (xArgs fLen (xCons (xVar 1) xNil)))))) (yRet (xC (.bl false))) yNext) (yRet (xArgs fAll (xCons (xCompL (xSrcN srcZ2 (xCons (xSl (xVar 0) (xPart (xC (.int 1))) xNoPart) (xCons (xSl (xVar 1) (xPart (xC (.int 1))) xNoPart) xNil))) [3, 4] (gTp 2 (gsCons (gNm 3) (gsCons (gNm 4) gsNil))) tTrue (emL (xArgs (c .matched) (xCons (xVar 3) (xCons (xVar 4) (xCons (xVar 2) xNil)))))) xNil)))))
noncomputable def r_match_ (c c1 : Fn → Run) : Run := pureM (bodyM 2 3 (ySeq (ySet 2 xDnewH) (yRet (xIf (tVal (xArgs (c .matched) (xCons (xVar 0) (xCons (xVar 1) (xCons (xVar 2) xNil))))) (xArgs (c .pairs_of) (xCons (xVar 2) xNil)) (xC .non)))))
noncomputable def r_tidy_term (c c1 : Fn → Run) : Run := pureM (bodyM 1 4 (ySeq (ySet 1 xDnewH) (ySeq (ySet 2 (xArgs fLstH (xCons (xVar 0) xNil))) (ySeq (yWhile (tTru (xVar 2)) (ySeq (ySet 3 (xMethC isLstH fPop (xVar 2) xNil)) (yIf (tVal (xArgs (c .is_variable) (xCons (xVar 3) xNil))) (yExpr (xMethC isDctA fSetd (xVar 1) (xCons (xVar 3) (xCons (xArgs fLen (xCons (xVar 1) xNil)) xNil)))) (yExpr (xMethC isLstH fExtend (xVar 2) (xCons (xRev (xSl (xVar 3) (xPart (xC (.int 1))) xNoPart)) xNil)))))) (yRet (xArgs (c .put_in) (xCons (xVar 0) (xCons (xVar 1) xNil))))))))
noncomputable def r_is_variant (c c1 : Fn → Run) : Run := pureM (bodyM 2 2 (yRet (xBin fEq (xArgs (c .tidy_term) (xCons (xVar 0) xNil)) (xArgs (c .tidy_term) (xCons (xVar 1) xNil)))))
noncomputable def r_generalized (c c1 : Fn → Run) : Run := pureM (bodyM 2 8 (ySeq (ySet 2 xDnewH) (ySeq (ySet 3 (xArgs (c .joint_term) (xCons (xVar 0) (xCons (xVar 1) (xCons (xVar 2) xNil))))) (ySeq (yLk 2 (ySet 4 (xCompD (xSrc srcItems (xVar 2)) [6, 7] (gTp 2 (gsCons (gNm 6) (gsCons (gNm 7) gsNil))) tTrue (emD (xVar 7) (xBin fIx (xVar 6) (xC (.int 0))))))) (ySeq (yLk 2 (ySet 5 (xCompD (xSrc srcItems (xVar 2)) [6, 7] (gTp 2 (gsCons (gNm 6) (gsCons (gNm 7) gsNil))) tTrue (emD (xVar 7) (xBin fIx (xVar 6) (xC (.int 1))))))) (yRet (xArgs fTup (xCons (xVar 3) (xCons (xArgs (c .pairs_of) (xCons (xVar 4) xNil)) (xCons (xArgs (c .pairs_of) (xCons (xVar 5) xNil)) xNil))))))))))
noncomputable def r_joint_term (c c1 : Fn → Run) : Run := bodyM 3 6 (ySeq (ySet 3 (xAndV (xNotV (xArgs (c .is_variable) (xCons (xVar 0) xNil))) (xNotV (xArgs (c .is_variable) (xCons (xVar 1) xNil))))) (ySeq (yIf (tAnd2 (tTru (xVar 3)) (tAnd2 (tVal (xBin fEq (xBin fIx (xVar 0) (xC (.int 0))) (xBin fIx (xVar 1) (xC (.int 0))))) (tVal (xBin fEq (xArgs fLen (xCons (xVar 0) xNil)) (xArgs fLen (xCons (xVar 1) xNil)))))) (yRet (xBin fAdd (xArgs fTup (xCons (xBin fIx (xVar 0) (xC (.int 0))) xNil)) (xArgs fTuple (xCons (xCompL (xSrcN srcZ2 (xCons (xSl (xVar 0) (xPart (xC (.int 1))) xNoPart) (xCons (xSl (xVar 1) (xPart (xC (.int 1))) xNoPart) xNil))) [4, 5] (gTp 2 (gsCons (gNm 4) (gsCons (gNm 5) gsNil))) tTrue (emL (xArgs (c .joint_term) (xCons (xVar 4) (xCons (xVar 5) (xCons (xVar 2) xNil)))))) xNil)))) yNext) (yRet (xMethC isDctA fSetd (xVar 2) (xCons (xArgs fTup (xCons (xVar 0) (xCons (xVar 1) xNil))) (xCons (xArgs fLen (xCons (xVar 2) xNil)) xNil))))))
noncomputable def r_Closure_init (c c1 : Fn → Run) : Run := bodyM 2 6 (ySeq (yFld "Closure" "steps" (xVar 0) (xArgs fLstH xNil)) (ySeq (yFld "Closure" "numbers" (xVar 0) xDnewH) (ySeq (yFld "Closure" "lefts" (xVar 0) xDnewH) (ySeq (yFor (xSrcN srcE1 (xCons (xVar 1) xNil)) (gTp 2 (gsCons (gNm 2) (gsCons (gTp 2 (gsCons (gNm 3) (gsCons (gNm 4) gsNil))) gsNil))) (yExpr (xCallM "Closure" "note" (c .Closure_note) (xVar 0) (xCons (xVar 3) (xCons (xVar 4) (xCons (xArgs fTup (xCons (xC (.str "given")) (xCons (xVar 2) xNil))) xNil)))))) (ySeq (ySet 5 (xC (.int 0))) (yWhile (tVal (xBin fLtI (xVar 5) (xArgs fLen (xCons (xUn (fFld "Closure" "steps") (xVar 0)) xNil)))) (ySeq (yExpr (xCallM "Closure" "go_on" (c .Closure_go_on) (xVar 0) (xCons (xVar 5) xNil))) (ySet 5 (xBin fAddI (xVar 5) (xC (.int 1)))))))))))
noncomputable def r_Closure_note (c c1 : Fn → Run) : Run := bodyM 4 4 (yIf (tAnd2 (tVal (xBin fNotInD (xArgs fTup (xCons (xVar 1) (xCons (xVar 2) xNil))) (xUn (fFld "Closure" "numbers") (xVar 0)))) (tVal (xBin fNe (xVar 1) (xVar 2)))) (ySeq (yAsg (xArgs fLen (xCons (xUn (fFld "Closure" "steps") (xVar 0)) xNil)) (gSb (xUn (fFld "Closure" "numbers") (xVar 0)) (xArgs fTup (xCons (xVar 1) (xCons (xVar 2) xNil))) wSetD)) (ySeq (yExpr (xMethC isLstH fAppend (xMethC isDctA fSetd (xUn (fFld "Closure" "lefts") (xVar 0)) (xCons (xVar 1) (xCons (xArgs fLstH xNil) xNil))) (xCons (xArgs fLen (xCons (xUn (fFld "Closure" "steps") (xVar 0)) xNil)) xNil))) (yExpr (xMethC isLstH fAppend (xUn (fFld "Closure" "steps") (xVar 0)) (xCons (xArgs fTup (xCons (xVar 1) (xCons (xVar 2) (xCons (xVar 3) xNil)))) xNil))))) yNext)
noncomputable def r_Closure_go_on (c c1 : Fn → Run) : Run := bodyM 2 7 (ySeq (yAsg (xBin fIx (xUn (fFld "Closure" "steps") (xVar 0)) (xVar 1)) (gTp 3 (gsCons (gNm 2) (gsCons (gNm 3) (gsCons (gNm 4) gsNil))))) (ySeq (yExpr (xCallM "Closure" "note" (c .Closure_note) (xVar 0) (xCons (xVar 3) (xCons (xVar 2) (xCons (xArgs fTup (xCons (xC (.str "turned")) (xCons (xVar 1) xNil))) xNil))))) (ySeq (yIf (tAnd2 (tNot2 (tVal (xArgs (c .is_variable) (xCons (xVar 2) xNil)))) (tAnd2 (tNot2 (tVal (xArgs (c .is_variable) (xCons (xVar 3) xNil)))) (tAnd2 (tVal (xBin fEq (xBin fIx (xVar 2) (xC (.int 0))) (xBin fIx (xVar 3) (xC (.int 0))))) (tVal (xBin fEq (xArgs fLen (xCons (xVar 2) xNil)) (xArgs fLen (xCons (xVar 3) xNil))))))) (yFor (xSrcN srcR1 (xCons (xBin fSubI (xArgs fLen (xCons (xVar 2) xNil)) (xC (.int 1))) xNil)) (gNm 5) (yExpr (xCallM "Closure" "note" (c .Closure_note) (xVar 0) (xCons (xBin fIx (xVar 2) (xBin fAdd (xC (.int 1)) (xVar 5))) (xCons (xBin fIx (xVar 3) (xBin fAdd (xC (.int 1)) (xVar 5))) (xCons (xArgs fTup (xCons (xC (.str "parts")) (xCons (xVar 1) (xCons (xVar 5) xNil)))) xNil)))))) yNext) (ySeq (yFor (xSrc srcAny (xArgs fList (xCons (xMethC isDctA fGet (xUn (fFld "Closure" "lefts") (xVar 0)) (xCons (xVar 3) (xCons (xArgs fLst xNil) xNil))) xNil))) (gNm 6) (yExpr (xCallM "Closure" "note" (c .Closure_note) (xVar 0) (xCons (xVar 2) (xCons (xBin fIx (xBin fIx (xUn (fFld "Closure" "steps") (xVar 0)) (xVar 6)) (xC (.int 1))) (xCons (xArgs fTup (xCons (xC (.str "chained")) (xCons (xVar 1) (xCons (xVar 6) xNil)))) xNil)))))) (yFor (xSrcN srcR1 (xCons (xArgs fLen (xCons (xUn (fFld "Closure" "steps") (xVar 0)) xNil)) xNil)) (gNm 6) (yIf (tVal (xBin fEq (xBin fIx (xBin fIx (xUn (fFld "Closure" "steps") (xVar 0)) (xVar 6)) (xC (.int 1))) (xVar 2))) (yExpr (xCallM "Closure" "note" (c .Closure_note) (xVar 0) (xCons (xBin fIx (xBin fIx (xUn (fFld "Closure" "steps") (xVar 0)) (xVar 6)) (xC (.int 0))) (xCons (xVar 3) (xCons (xArgs fTup (xCons (xC (.str "chained")) (xCons (xVar 6) (xCons (xVar 1) xNil)))) xNil))))) yNext))))))
noncomputable def r_Closure_clash (c c1 : Fn → Run) : Run := bodyM 1 5 (ySeq (yFor (xSrcN srcE1 (xCons (xUn (fFld "Closure" "steps") (xVar 0)) xNil)) (gTp 2 (gsCons (gNm 1) (gsCons (gTp 3 (gsCons (gNm 2) (gsCons (gNm 3) (gsCons (gNm 4) gsNil)))) gsNil))) (yIf (tAnd2 (tNot2 (tVal (xArgs (c .is_variable) (xCons (xVar 2) xNil)))) (tNot2 (tVal (xArgs (c .is_variable) (xCons (xVar 3) xNil))))) (yIf (tOr2 (tVal (xBin fNe (xBin fIx (xVar 2) (xC (.int 0))) (xBin fIx (xVar 3) (xC (.int 0))))) (tVal (xBin fNe (xArgs fLen (xCons (xVar 2) xNil)) (xArgs fLen (xCons (xVar 3) xNil))))) (yRet (xVar 1)) yNext) yNext)) (yRet (xC .non)))
noncomputable def r_Closure_edges (c c1 : Fn → Run) : Run := bodyM 1 7 (ySeq (ySet 1 xDnewH) (ySeq (yFor (xSrcN srcE1 (xCons (xUn (fFld "Closure" "steps") (xVar 0)) xNil)) (gTp 2 (gsCons (gNm 2) (gsCons (gTp 3 (gsCons (gNm 3) (gsCons (gNm 4) (gsCons (gNm 5) gsNil)))) gsNil))) (yIf (tAnd2 (tVal (xArgs (c .is_variable) (xCons (xVar 3) xNil))) (tNot2 (tVal (xArgs (c .is_variable) (xCons (xVar 4) xNil))))) (yExpr (xMethC isLstH fExtend (xMethC isDctA fSetd (xVar 1) (xCons (xVar 3) (xCons (xArgs fLstH xNil) xNil))) (xCons (xCompL (xSrc srcAny (xArgs (c .variables_of) (xCons (xVar 4) xNil))) [6] (gNm 6) tTrue (emL (xArgs fTup (xCons (xVar 2) (xCons (xVar 6) xNil))))) xNil))) yNext)) (yRet (xVar 1))))
noncomputable def r_Closure_circle (c c1 : Fn → Run) : Run := bodyM 1 9 (ySeq (ySet 1 (xCallM "Closure" "edges" (pureD (c .Closure_edges)) (xVar 0) xNil)) (ySeq (yFor (xSrc srcAny (xArgs fSortD (xCons (xVar 1) xNil))) (gNm 2) (ySeq (ySet 3 xDnewH) (ySeq (ySet 4 (xArgs fLstH (xCons (xArgs fTup (xCons (xVar 2) (xCons (xArgs fTup xNil) xNil))) xNil))) (yWhile (tTru (xVar 4)) (ySeq (yAsg (xMethC isLstH fPop (xVar 4) (xCons (xC (.int 0)) xNil)) (gTp 2 (gsCons (gNm 5) (gsCons (gNm 6) gsNil)))) (yFor (xSrc srcAny (xMethC isDctA fGet (xVar 1) (xCons (xVar 5) (xCons (xArgs fLst xNil) xNil)))) (gTp 2 (gsCons (gNm 7) (gsCons (gNm 8) gsNil))) (ySeq (yIf (tVal (xBin fEq (xVar 8) (xVar 2))) (yRet (xBin fAdd (xVar 6) (xArgs fTup (xCons (xVar 7) xNil)))) yNext) (yIf (tVal (xBin fNotInD (xVar 8) (xVar 3))) (ySeq (yAsg (xC (.bl true)) (gSb (xVar 3) (xVar 8) wSetD)) (yExpr (xMethC isLstH fAppend (xVar 4) (xCons (xArgs fTup (xCons (xVar 8) (xCons (xBin fAdd (xVar 6) (xArgs fTup (xCons (xVar 7) xNil))) xNil))) xNil)))) yNext)))))))) (yRet (xC .non))))
noncomputable def r_Closure_value (c c1 : Fn → Run) : Run := bodyM 3 9 (ySeq (yIf (tVal (xBin fNotInD (xVar 1) (xVar 2))) (ySeq (ySet 3 (xCompL (xSrc srcAny (xUn (fFld "Closure" "steps") (xVar 0))) [5, 6, 7] (gTp 3 (gsCons (gNm 5) (gsCons (gNm 6) (gsCons (gNm 7) gsNil)))) (tVal (xBin fEq (xVar 5) (xVar 1))) (emL (xVar 6)))) (ySeq (ySet 4 (xCompL (xSrc srcAny (xVar 3)) [8] (gNm 8) (tNot2 (tVal (xArgs (c .is_variable) (xCons (xVar 8) xNil)))) (emL (xVar 8)))) (yIf (tTru (xVar 4)) (yAsg (xCallM "Closure" "filled" (c .Closure_filled) (xVar 0) (xCons (xBin fIx (xVar 4) (xC (.int 0))) (xCons (xVar 2) xNil))) (gSb (xVar 2) (xVar 1) wSetD)) (yAsg (xArgs fMinL (xCons (xBin fAdd (xArgs fLst (xCons (xVar 1) xNil)) (xVar 3)) xNil)) (gSb (xVar 2) (xVar 1) wSetD))))) yNext) (yRet (xBin fIx (xVar 2) (xVar 1))))
noncomputable def r_Closure_filled (c c1 : Fn → Run) : Run := bodyM 3 4 (ySeq (yIf (tVal (xArgs (c .is_variable) (xCons (xVar 1) xNil))) (yRet (xCallM "Closure" "value" (c .Closure_value) (xVar 0) (xCons (xVar 1) (xCons (xVar 2) xNil)))) yNext) (yRet (xBin fAdd (xArgs fTup (xCons (xBin fIx (xVar 1) (xC (.int 0))) xNil)) (xArgs fTuple (xCons (xCompL (xSrc srcAny (xSl (xVar 1) (xPart (xC (.int 1))) xNoPart)) [3] (gNm 3) tTrue (emL (xCallM "Closure" "filled" (c .Closure_filled) (xVar 0) (xCons (xVar 3) (xCons (xVar 2) xNil))))) xNil)))))
noncomputable def r_cut_steps (c c1 : Fn → Run) : Run := pureM (bodyM 2 9 (ySeq (ySet 2 xDnewH) (ySeq (ySet 3 (xArgs fListH (xCons (xVar 1) xNil))) (ySeq (yWhile (tTru (xVar 3)) (ySeq (ySet 4 (xMethC isLstH fPop (xVar 3) xNil)) (yIf (tVal (xBin fNotInD (xVar 4) (xVar 2))) (ySeq (yAsg (xC (.bl true)) (gSb (xVar 2) (xVar 4) wSetD)) (ySeq (ySet 5 (xBin fIx (xBin fIx (xVar 0) (xVar 4)) (xC (.int 2)))) (ySeq (yIf (tOr2 (tVal (xBin fEq (xBin fIx (xVar 5) (xC (.int 0))) (xC (.str "turned")))) (tVal (xBin fEq (xBin fIx (xVar 5) (xC (.int 0))) (xC (.str "parts"))))) (yExpr (xMethC isLstH fAppend (xVar 3) (xCons (xBin fIx (xVar 5) (xC (.int 1))) xNil))) yNext) (yIf (tVal (xBin fEq (xBin fIx (xVar 5) (xC (.int 0))) (xC (.str "chained")))) (yExpr (xMethC isLstH fExtend (xVar 3) (xCons (xSl (xVar 5) (xPart (xC (.int 1))) xNoPart) xNil))) yNext)))) yNext))) (ySeq (ySet 6 (xArgs fSortD (xCons (xVar 2) xNil))) (ySeq (ySet 7 (xCompD (xSrcN srcE1 (xCons (xVar 6) xNil)) [8, 4] (gTp 2 (gsCons (gNm 8) (gsCons (gNm 4) gsNil))) tTrue (emD (xVar 4) (xVar 8)))) (yRet (xArgs fTup (xCons (xArgs fTuple (xCons (xCompL (xSrc srcAny (xVar 6)) [4] (gNm 4) tTrue (emL (xArgs (c .renumbered) (xCons (xBin fIx (xVar 0) (xVar 4)) (xCons (xVar 7) xNil))))) xNil)) (xCons (xArgs fTuple (xCons (xCompL (xSrc srcAny (xVar 1)) [4] (gNm 4) tTrue (emL (xBin fIx (xVar 7) (xVar 4)))) xNil)) xNil))))))))))
noncomputable def r_renumbered (c c1 : Fn → Run) : Run := bodyM 2 5 (ySeq (yAsg (xVar 0) (gTp 3 (gsCons (gNm 2) (gsCons (gNm 3) (gsCons (gNm 4) gsNil))))) (ySeq (yIf (tVal (xBin fEq (xBin fIx (xVar 4) (xC (.int 0))) (xC (.str "turned")))) (ySet 4 (xArgs fTup (xCons (xC (.str "turned")) (xCons (xBin fIx (xVar 1) (xBin fIx (xVar 4) (xC (.int 1)))) xNil)))) (yIf (tVal (xBin fEq (xBin fIx (xVar 4) (xC (.int 0))) (xC (.str "parts")))) (ySet 4 (xArgs fTup (xCons (xC (.str "parts")) (xCons (xBin fIx (xVar 1) (xBin fIx (xVar 4) (xC (.int 1)))) (xCons (xBin fIx (xVar 4) (xC (.int 2))) xNil))))) (yIf (tVal (xBin fEq (xBin fIx (xVar 4) (xC (.int 0))) (xC (.str "chained")))) (ySet 4 (xArgs fTup (xCons (xC (.str "chained")) (xCons (xBin fIx (xVar 1) (xBin fIx (xVar 4) (xC (.int 1)))) (xCons (xBin fIx (xVar 1) (xBin fIx (xVar 4) (xC (.int 2)))) xNil))))) yNext))) (yRet (xArgs fTup (xCons (xVar 2) (xCons (xVar 3) (xCons (xVar 4) xNil)))))))
noncomputable def r_unify (c c1 : Fn → Run) : Run := pureM (bodyM 1 12 (ySeq (ySet 1 (xMake "Closure" (c1 .Closure_init) (xCons (xVar 0) xNil))) (ySeq (ySet 2 (xCallM "Closure" "clash" (c .Closure_clash) (xVar 1) xNil)) (ySeq (yIf (tVal (xBin fNotN (xVar 2) (xC .non))) (yRet (xArgs fTup (xCons (xC (.str "clash")) (xCons (xBin fIx (xArgs (c .cut_steps) (xCons (xUn (fFld "Closure" "steps") (xVar 1)) (xCons (xArgs fLst (xCons (xVar 2) xNil)) xNil))) (xC (.int 0))) xNil)))) yNext) (ySeq (ySet 3 (xCallM "Closure" "circle" (c .Closure_circle) (xVar 1) xNil)) (ySeq (yIf (tVal (xBin fNotN (xVar 3) (xC .non))) (ySeq (yAsg (xArgs (c .cut_steps) (xCons (xUn (fFld "Closure" "steps") (xVar 1)) (xCons (xVar 3) xNil))) (gTp 2 (gsCons (gNm 4) (gsCons (gNm 5) gsNil)))) (yRet (xArgs fTup (xCons (xC (.str "loop")) (xCons (xVar 4) (xCons (xVar 5) xNil)))))) yNext) (ySeq (ySet 6 xDnewH) (ySeq (ySet 7 (xArgs fSortD (xCons (xCompD (xSrc srcAny (xVar 0)) [9, 10, 11] (gNm 9) tTrue (midC (xSrc srcAny (xVar 9)) [10, 11] (gNm 10) tTrue (midC (xSrc srcAny (xArgs (c .variables_of) (xCons (xVar 10) xNil))) [11] (gNm 11) tTrue (emD (xVar 11) (xC (.bl true)))))) xNil))) (ySeq (ySet 8 (xCompD (xSrc srcAny (xVar 7)) [11] (gNm 11) tTrue (emD (xVar 11) (xCallM "Closure" "value" (c .Closure_value) (xVar 1) (xCons (xVar 11) (xCons (xVar 6) xNil)))))) (yRet (xArgs fTup (xCons (xC (.str "unified")) (xCons (xArgs (c .pairs_of) (xCons (xCompD (xSrc srcAny (xVar 8)) [11] (gNm 11) (tVal (xBin fNe (xBin fIx (xVar 8) (xVar 11)) (xVar 11))) (emD (xVar 11) (xBin fIx (xVar 8) (xVar 11)))) xNil)) xNil)))))))))))))
noncomputable def r_makes_equal (c c1 : Fn → Run) : Run := pureM (bodyM 2 5 (ySeq (ySet 2 (xArgs fDictX (xCons (xVar 1) xNil))) (yRet (xArgs fAll (xCons (xCompL (xSrc srcAny (xVar 0)) [3, 4] (gTp 2 (gsCons (gNm 3) (gsCons (gNm 4) gsNil))) tTrue (emL (xBin fEq (xArgs (c .put_in) (xCons (xVar 3) (xCons (xVar 2) xNil))) (xArgs (c .put_in) (xCons (xVar 4) (xCons (xVar 2) xNil)))))) xNil)))))
noncomputable def r_law_tape (c c1 : Fn → Run) : Run := bodyM 1 4 (ySeq (ySet 2 (xCompL (xSrc srcAny (xVar 0)) [1] (gNm 1) tTrue (emL (xArgs fAbs (xCons (xArgs fInt (xCons (xVar 1) xNil)) xNil))))) (ySeq (ySet 3 (xC (.int 7))) (ySeq (yFor (xSrc srcAny (xVar 2)) (gNm 1) (ySet 3 (xBin fModI (xArgs fInt (xCons (xBin fAdd (xBin fMulI (xVar 3) (xC (.int 31))) (xVar 1)) xNil)) (xC (.int 2147483647))))) (yRet (xDisp ["cells", "at", "left", "seed", "salt"] (xCons (xVar 2) (xCons (xC (.int 0)) (xCons (xC (.int 0)) (xCons (xVar 3) (xCons (xC (.int 0)) xNil))))))))))
noncomputable def r_law_take (c c1 : Fn → Run) : Run := bodyM 2 4 (ySeq (yIf (tAnd2 (tVal (xBin fEq (xBin fIx (xVar 0) (xC (.str "left"))) (xC (.int 0)))) (tVal (xBin fLtI (xBin fIx (xVar 0) (xC (.str "at"))) (xArgs fLen (xCons (xBin fIx (xVar 0) (xC (.str "cells"))) xNil))))) (ySeq (yAsg (xBin fIx (xBin fIx (xVar 0) (xC (.str "cells"))) (xBin fIx (xVar 0) (xC (.str "at")))) (gSb (xVar 0) (xC (.str "left")) wSetD)) (yAsg (xBin fAdd (xBin fIx (xVar 0) (xC (.str "at"))) (xC (.int 1))) (gSb (xVar 0) (xC (.str "at")) wSetD))) yNext) (ySeq (yIf (tVal (xBin fGtI (xBin fIx (xVar 0) (xC (.str "left"))) (xC (.int 0)))) (ySeq (ySet 2 (xBin fModI (xArgs fInt (xCons (xBin fIx (xVar 0) (xC (.str "left"))) xNil)) (xVar 1))) (ySeq (yAsg (xBin fDivI (xBin fIx (xVar 0) (xC (.str "left"))) (xVar 1)) (gSb (xVar 0) (xC (.str "left")) wSetD)) (yRet (xVar 2)))) yNext) (ySeq (yAsg (xBin fAdd (xBin fIx (xVar 0) (xC (.str "salt"))) (xC (.int 1))) (gSb (xVar 0) (xC (.str "salt")) wSetD)) (ySeq (ySet 3 (xBin fModI (xArgs fInt (xCons (xBin fAdd (xBin fMulI (xBin fIx (xVar 0) (xC (.str "seed"))) (xC (.int 48271))) (xBin fMulI (xBin fIx (xVar 0) (xC (.str "salt"))) (xC (.int 69621)))) xNil)) (xC (.int 2147483647)))) (ySeq (ySet 3 (xBin fModI (xArgs fInt (xCons (xBin fAdd (xBin fAdd (xBin fMulI (xVar 3) (xVar 3)) (xBin fMulI (xBin fIx (xVar 0) (xC (.str "salt"))) (xC (.int 40692)))) (xC (.int 12345))) xNil)) (xC (.int 2147483399)))) (yRet (xBin fModI (xArgs fInt (xCons (xVar 3) xNil)) (xVar 1))))))))
noncomputable def r_law_term (c c1 : Fn → Run) : Run := bodyM 3 4 (ySeq (ySet 3 (xArgs (c .law_take) (xCons (xVar 0) (xCons (xC (.int 5)) xNil)))) (ySeq (yIf (tOr2 (tVal (xBin fEq (xVar 1) (xC (.int 0)))) (tVal (xBin fLtI (xVar 3) (xC (.int 2))))) (yRet (xBin fIx (xArgs fLst (xCons (xArgs fTup (xCons (xC (.str "a")) xNil)) (xCons (xBin fAdd (xVar 2) (xArgs (c .law_take) (xCons (xVar 0) (xCons (xC (.int 3)) xNil)))) xNil))) (xArgs (c .law_take) (xCons (xVar 0) (xCons (xC (.int 2)) xNil))))) yNext) (ySeq (yIf (tVal (xBin fEq (xVar 3) (xC (.int 2)))) (yRet (xArgs fTup (xCons (xC (.str "g")) (xCons (xArgs (c .law_term) (xCons (xVar 0) (xCons (xBin fSubI (xVar 1) (xC (.int 1))) (xCons (xVar 2) xNil)))) xNil)))) yNext) (yRet (xArgs fTup (xCons (xC (.str "f")) (xCons (xArgs (c .law_term) (xCons (xVar 0) (xCons (xBin fSubI (xVar 1) (xC (.int 1))) (xCons (xVar 2) xNil)))) (xCons (xArgs (c .law_term) (xCons (xVar 0) (xCons (xBin fSubI (xVar 1) (xC (.int 1))) (xCons (xVar 2) xNil)))) xNil))))))))
noncomputable def r_law_values (c c1 : Fn → Run) : Run := bodyM 2 4 (ySeq (ySet 2 xDnewH) (ySeq (yFor (xSrc srcAny (xArgs (c .variables_of) (xCons (xVar 1) xNil))) (gNm 3) (yAsg (xArgs (c .law_term) (xCons (xVar 0) (xCons (xC (.int 1)) (xCons (xBin fMulI (xArgs (c .law_take) (xCons (xVar 0) (xCons (xC (.int 2)) xNil))) (xC (.int 10))) xNil)))) (gSb (xVar 2) (xVar 3) wSetD))) (yRet (xVar 2))))
noncomputable def r_law_moved (c c1 : Fn → Run) : Run := bodyM 2 3 (ySeq (yIf (tVal (xUn fIsInt (xVar 0))) (yRet (xBin fAdd (xVar 0) (xVar 1))) yNext) (yRet (xBin fAdd (xArgs fTup (xCons (xBin fIx (xVar 0) (xC (.int 0))) xNil)) (xArgs fTuple (xCons (xCompL (xSrc srcAny (xSl (xVar 0) (xPart (xC (.int 1))) xNoPart)) [2] (gNm 2) tTrue (emL (xArgs (c .law_moved) (xCons (xVar 2) (xCons (xVar 1) xNil))))) xNil)))))
noncomputable def r_law (c c1 : Fn → Run) : Run := bodyM 1 22 (ySeq (ySet 1 (xArgs (c .law_tape) (xCons (xVar 0) xNil))) (ySeq (yFor (xSrcN srcR1 (xCons (xC (.int 3)) xNil)) (gNm 2) (ySeq (yPar3 3 4 5 (xCons (xArgs (c .law_term) (xCons (xVar 1) (xCons (xC (.int 2)) (xCons (xC (.int 0)) xNil)))) (xCons (xArgs (c .law_term) (xCons (xVar 1) (xCons (xC (.int 2)) (xCons (xC (.int 0)) xNil)))) (xCons (xArgs (c .law_term) (xCons (xVar 1) (xCons (xC (.int 2)) (xCons (xC (.int 0)) xNil)))) xNil)))) (ySeq (yAsg (xArgs (c .generalized) (xCons (xVar 3) (xCons (xVar 4) xNil))) (gTp 3 (gsCons (gNm 6) (gsCons (gNm 7) (gsCons (gNm 8) gsNil))))) (ySeq (yIf (tOr2 (tVal (xBin fNe (xArgs (c .put_in) (xCons (xVar 6) (xCons (xArgs fDictX (xCons (xVar 7) xNil)) xNil))) (xVar 3))) (tOr2 (tVal (xBin fNe (xArgs (c .put_in) (xCons (xVar 6) (xCons (xArgs fDictX (xCons (xVar 8) xNil)) xNil))) (xVar 4))) (tAnd2 (tVal (xBin fNe (xBin fIx (xArgs (c .generalized) (xCons (xVar 4) (xCons (xVar 3) xNil))) (xC (.int 0))) (xVar 6))) (tNot2 (tVal (xArgs (c .is_variant) (xCons (xBin fIx (xArgs (c .generalized) (xCons (xVar 4) (xCons (xVar 3) xNil))) (xC (.int 0))) (xCons (xVar 6) xNil)))))))) (yRet (xC (.bl false))) yNext) (ySeq (yIf (tOr2 (tVal (xBin fIsN (xArgs (c .match_) (xCons (xVar 6) (xCons (xVar 3) xNil))) (xC .non))) (tOr2 (tVal (xBin fIsN (xArgs (c .match_) (xCons (xVar 6) (xCons (xVar 4) xNil))) (xC .non))) (tVal (xBin fGtI (xArgs (c .term_size) (xCons (xVar 6) xNil)) (xArgs fMin2 (xCons (xArgs (c .term_size) (xCons (xVar 3) xNil)) (xCons (xArgs (c .term_size) (xCons (xVar 4) xNil)) xNil))))))) (yRet (xC (.bl false))) yNext) (ySeq (ySet 9 (xBin fIx (xArgs (c .generalized) (xCons (xBin fIx (xArgs (c .generalized) (xCons (xVar 3) (xCons (xVar 4) xNil))) (xC (.int 0))) (xCons (xVar 5) xNil))) (xC (.int 0)))) (ySeq (ySet 10 (xBin fIx (xArgs (c .generalized) (xCons (xVar 3) (xCons (xBin fIx (xArgs (c .generalized) (xCons (xVar 4) (xCons (xVar 5) xNil))) (xC (.int 0))) xNil))) (xC (.int 0)))) (ySeq (yIf (tOr2 (tNot2 (tVal (xArgs (c .is_variant) (xCons (xVar 9) (xCons (xVar 10) xNil))))) (tOr2 (tNot2 (tVal (xArgs (c .is_variant) (xCons (xBin fIx (xArgs (c .generalized) (xCons (xVar 3) (xCons (xVar 3) xNil))) (xC (.int 0))) (xCons (xVar 3) xNil))))) (tNot2 (tVal (xArgs (c .is_variant) (xCons (xArgs (c .tidy_term) (xCons (xVar 3) xNil)) (xCons (xVar 3) xNil))))))) (yRet (xC (.bl false))) yNext) (ySeq (ySet 11 (xArgs (c .law_values) (xCons (xVar 1) (xCons (xVar 3) xNil)))) (ySeq (ySet 12 (xArgs (c .put_in) (xCons (xVar 3) (xCons (xVar 11) xNil)))) (ySeq (yIf (tOr2 (tVal (xBin fIsN (xArgs (c .match_) (xCons (xVar 3) (xCons (xVar 12) xNil))) (xC .non))) (tOr2 (tNot2 (tVal (xArgs (c .is_variant) (xCons (xBin fIx (xArgs (c .generalized) (xCons (xVar 3) (xCons (xVar 12) xNil))) (xC (.int 0))) (xCons (xVar 3) xNil))))) (tVal (xBin fNe (xBin fNotN (xArgs (c .match_) (xCons (xVar 12) (xCons (xVar 3) xNil))) (xC .non)) (xArgs (c .is_variant) (xCons (xVar 3) (xCons (xVar 12) xNil))))))) (yRet (xC (.bl false))) yNext) (ySeq (yIf (tOr2 (tVal (xBin fNe (xArgs (c .is_variant) (xCons (xVar 3) (xCons (xVar 4) xNil))) (xAndV (xBin fNotN (xArgs (c .match_) (xCons (xVar 3) (xCons (xVar 4) xNil))) (xC .non)) (xBin fNotN (xArgs (c .match_) (xCons (xVar 4) (xCons (xVar 3) xNil))) (xC .non))))) (tVal (xBin fNe (xBin fEq (xArgs (c .tidy_term) (xCons (xVar 3) xNil)) (xArgs (c .tidy_term) (xCons (xVar 4) xNil))) (xArgs (c .is_variant) (xCons (xVar 3) (xCons (xVar 4) xNil)))))) (yRet (xC (.bl false))) yNext) (ySeq (ySet 13 (xArgs (c .law_moved) (xCons (xVar 4) (xCons (xC (.int 20)) xNil)))) (ySeq (ySet 14 (xArgs (c .unify) (xCons (xArgs fLst (xCons (xArgs fTup (xCons (xVar 3) (xCons (xVar 13) xNil))) xNil)) xNil))) (ySeq (yIf (tVal (xBin fEq (xBin fIx (xVar 14) (xC (.int 0))) (xC (.str "unified")))) (ySeq (ySet 15 (xArgs (c .put_in) (xCons (xVar 3) (xCons (xArgs fDictX (xCons (xBin fIx (xVar 14) (xC (.int 1))) xNil)) xNil)))) (ySeq (yIf (tOr2 (tVal (xBin fNe (xArgs (c .put_in) (xCons (xVar 13) (xCons (xArgs fDictX (xCons (xBin fIx (xVar 14) (xC (.int 1))) xNil)) xNil))) (xVar 15))) (tOr2 (tVal (xBin fIsN (xArgs (c .match_) (xCons (xVar 3) (xCons (xVar 15) xNil))) (xC .non))) (tOr2 (tVal (xBin fIsN (xArgs (c .match_) (xCons (xVar 4) (xCons (xVar 15) xNil))) (xC .non))) (tVal (xBin fNotB (xArgs (c .makes_equal) (xCons (xArgs fLst (xCons (xArgs fTup (xCons (xVar 3) (xCons (xVar 13) xNil))) xNil)) (xCons (xBin fIx (xVar 14) (xC (.int 1))) xNil))) (xC (.bl true))))))) (yRet (xC (.bl false))) yNext) (ySeq (ySet 16 (xArgs (c .unify) (xCons (xArgs fLst (xCons (xArgs fTup (xCons (xVar 3) (xCons (xVar 13) xNil))) (xCons (xArgs fTup (xCons (xVar 3) (xCons (xVar 15) xNil))) xNil))) xNil))) (yIf (tOr2 (tVal (xBin fNe (xBin fIx (xVar 16) (xC (.int 0))) (xC (.str "unified")))) (tNot2 (tVal (xArgs (c .is_variant) (xCons (xArgs (c .put_in) (xCons (xVar 3) (xCons (xArgs fDictX (xCons (xBin fIx (xVar 16) (xC (.int 1))) xNil)) xNil))) (xCons (xVar 15) xNil)))))) (yRet (xC (.bl false))) yNext)))) (ySeq (ySet 17 (xArgs (c .put_in) (xCons (xVar 3) (xCons (xVar 11) xNil)))) (yIf (tVal (xBin fNotN (xArgs (c .match_) (xCons (xVar 4) (xCons (xVar 17) xNil))) (xC .non))) (yRet (xC (.bl false))) yNext))) (ySeq (ySet 18 (xArgs (c .law_values) (xCons (xVar 1) (xCons (xVar 12) xNil)))) (ySeq (ySet 19 xDnewH) (ySeq (yLk 11 (yFor (xSrc srcAny (xVar 11)) (gNm 20) (yAsg (xArgs (c .put_in) (xCons (xBin fIx (xVar 11) (xVar 20)) (xCons (xVar 18) xNil))) (gSb (xVar 19) (xVar 20) wSetD)))) (ySeq (yIf (tAnd2 (tVal (xBin fNe (xArgs (c .put_in) (xCons (xVar 12) (xCons (xVar 18) xNil))) (xArgs (c .put_in) (xCons (xVar 3) (xCons (xVar 19) xNil))))) (tVal (xArgs fAll (xCons (xCompL (xSrc srcAny (xArgs (c .variables_of) (xCons (xVar 3) xNil))) [20] (gNm 20) tTrue (emL (xBin fInD (xVar 20) (xVar 19)))) xNil)))) (yRet (xC (.bl false))) yNext) (ySeq (ySet 21 (xArgs (c .unify) (xCons (xArgs fLst (xCons (xArgs fTup (xCons (xVar 13) (xCons (xVar 3) xNil))) xNil)) xNil))) (yIf (tAnd2 (tVal (xBin fNe (xBin fIx (xVar 21) (xC (.int 0))) (xBin fIx (xVar 14) (xC (.int 0))))) (tOr2 (tVal (xBin fEq (xBin fIx (xVar 21) (xC (.int 0))) (xC (.str "unified")))) (tVal (xBin fEq (xBin fIx (xVar 14) (xC (.int 0))) (xC (.str "unified")))))) (yRet (xC (.bl false))) yNext))))))))))))))))))))) (yRet (xC (.bl true)))))
noncomputable def body (c c1 : Fn → Run) : Fn → Run
  | .is_variable => r_is_variable c c1
  | .term_size => r_term_size c c1
  | .variables_of => r_variables_of c c1
  | .put_in => r_put_in c c1
  | .pairs_of => r_pairs_of c c1
  | .matched => r_matched c c1
  | .match_ => r_match_ c c1
  | .tidy_term => r_tidy_term c c1
  | .is_variant => r_is_variant c c1
  | .generalized => r_generalized c c1
  | .joint_term => r_joint_term c c1
  | .Closure_init => r_Closure_init c c1
  | .Closure_note => r_Closure_note c c1
  | .Closure_go_on => r_Closure_go_on c c1
  | .Closure_clash => r_Closure_clash c c1
  | .Closure_edges => r_Closure_edges c c1
  | .Closure_circle => r_Closure_circle c c1
  | .Closure_value => r_Closure_value c c1
  | .Closure_filled => r_Closure_filled c c1
  | .cut_steps => r_cut_steps c c1
  | .renumbered => r_renumbered c c1
  | .unify => r_unify c c1
  | .makes_equal => r_makes_equal c c1
  | .law_tape => r_law_tape c c1
  | .law_take => r_law_take c c1
  | .law_term => r_law_term c c1
  | .law_values => r_law_values c c1
  | .law_moved => r_law_moved c c1
  | .law => r_law c c1
def none1 : Fn → Run := fun _ _ _ => none
noncomputable def progs : Nat → (Fn → Run) × (Fn → Run)
  | 0 => (none1, none1)
  | k + 1 => (body (progs k).1 (progs k).2, (progs k).1)
/-- what the head gives -/
structure W (K : PySem.W.Frag) (mg : Str → Option Value) (adr : Fn → Addr) (fdat : Fn → FuncData) (aC : Addr) : Prop where
  fn : ∀ f, FunD K (nm f) (ql f) (defArgs (stt f)) (defBody (stt f)) (defScope (stt f)) [] [] (adr f) (fdat f)
  g_is_variable : mg "is_variable" = some (.ref (adr .is_variable))
  g_term_size : mg "term_size" = some (.ref (adr .term_size))
  g_variables_of : mg "variables_of" = some (.ref (adr .variables_of))
  g_put_in : mg "put_in" = some (.ref (adr .put_in))
  g_pairs_of : mg "pairs_of" = some (.ref (adr .pairs_of))
  g_matched : mg "matched" = some (.ref (adr .matched))
  g_match_ : mg "match" = some (.ref (adr .match_))
  g_tidy_term : mg "tidy_term" = some (.ref (adr .tidy_term))
  g_is_variant : mg "is_variant" = some (.ref (adr .is_variant))
  g_generalized : mg "generalized" = some (.ref (adr .generalized))
  g_joint_term : mg "joint_term" = some (.ref (adr .joint_term))
  g_cut_steps : mg "cut_steps" = some (.ref (adr .cut_steps))
  g_renumbered : mg "renumbered" = some (.ref (adr .renumbered))
  g_unify : mg "unify" = some (.ref (adr .unify))
  g_makes_equal : mg "makes_equal" = some (.ref (adr .makes_equal))
  g_law_tape : mg "_law_tape" = some (.ref (adr .law_tape))
  g_law_take : mg "_law_take" = some (.ref (adr .law_take))
  g_law_term : mg "_law_term" = some (.ref (adr .law_term))
  g_law_values : mg "_law_values" = some (.ref (adr .law_values))
  g_law_moved : mg "_law_moved" = some (.ref (adr .law_moved))
  g_law : mg "law" = some (.ref (adr .law))
  n_len : mg "len" = none
  n_sum : mg "sum" = none
  n_all : mg "all" = none
  n_min : mg "min" = none
  n_abs : mg "abs" = none
  n_sorted : mg "sorted" = none
  n_int : mg "int" = none
  n_tuple : mg "tuple" = none
  n_list : mg "list" = none
  n_dict : mg "dict" = none
  n_isinstance : mg "isinstance" = none
  n_enumerate : mg "enumerate" = none
  n_zip : mg "zip" = none
  n_range : mg "range" = none
  g_Closure : mg "Closure" = some (.ref aC)
  cl_Closure : Cls K aC
  mk_Closure : Mk K aC (adr .Closure_init)
  m_Closure_note : Meth K aC "note" (adr .Closure_note)
  m_Closure_go_on : Meth K aC "go_on" (adr .Closure_go_on)
  m_Closure_clash : Meth K aC "clash" (adr .Closure_clash)
  m_Closure_edges : Meth K aC "edges" (adr .Closure_edges)
  m_Closure_circle : Meth K aC "circle" (adr .Closure_circle)
  m_Closure_value : Meth K aC "value" (adr .Closure_value)
  m_Closure_filled : Meth K aC "filled" (adr .Closure_filled)
  fld_Closure_steps : ∀ C, mg "Closure" = some (.ref C) → Cls K C ∧ NoAttr K C "steps"
  fld_Closure_numbers : ∀ C, mg "Closure" = some (.ref C) → Cls K C ∧ NoAttr K C "numbers"
  fld_Closure_lefts : ∀ C, mg "Closure" = some (.ref C) → Cls K C ∧ NoAttr K C "lefts"
section
variable {K : PySem.W.Frag} {mg : Str → Option Value} {adr : Fn → Addr} {fdat : Fn → FuncData} {aC : Addr}
theorem binds (W : W K mg adr fdat aC) : ∀ f, Binds K (fdat f) (prm f) []
  | .is_variable => (W.fn .is_variable).bindsN fun _ _ _ _ _ _ us hl => match us, hl with | [_], _ => rfl
  | .term_size => (W.fn .term_size).bindsN fun _ _ _ _ _ _ us hl => match us, hl with | [_], _ => rfl
  | .variables_of => (W.fn .variables_of).bindsN fun _ _ _ _ _ _ us hl => match us, hl with | [_], _ => rfl
  | .put_in => (W.fn .put_in).bindsN fun _ _ _ _ _ _ us hl => match us, hl with | [_, _], _ => rfl
  | .pairs_of => (W.fn .pairs_of).bindsN fun _ _ _ _ _ _ us hl => match us, hl with | [_], _ => rfl
  | .matched => (W.fn .matched).bindsN fun _ _ _ _ _ _ us hl => match us, hl with | [_, _, _], _ => rfl
  | .match_ => (W.fn .match_).bindsN fun _ _ _ _ _ _ us hl => match us, hl with | [_, _], _ => rfl
  | .tidy_term => (W.fn .tidy_term).bindsN fun _ _ _ _ _ _ us hl => match us, hl with | [_], _ => rfl
  | .is_variant => (W.fn .is_variant).bindsN fun _ _ _ _ _ _ us hl => match us, hl with | [_, _], _ => rfl
  | .generalized => (W.fn .generalized).bindsN fun _ _ _ _ _ _ us hl => match us, hl with | [_, _], _ => rfl
  | .joint_term => (W.fn .joint_term).bindsN fun _ _ _ _ _ _ us hl => match us, hl with | [_, _, _], _ => rfl
  | .Closure_init => (W.fn .Closure_init).bindsN fun _ _ _ _ _ _ us hl => match us, hl with | [_, _], _ => rfl
  | .Closure_note => (W.fn .Closure_note).bindsN fun _ _ _ _ _ _ us hl => match us, hl with | [_, _, _, _], _ => rfl
  | .Closure_go_on => (W.fn .Closure_go_on).bindsN fun _ _ _ _ _ _ us hl => match us, hl with | [_, _], _ => rfl
  | .Closure_clash => (W.fn .Closure_clash).bindsN fun _ _ _ _ _ _ us hl => match us, hl with | [_], _ => rfl
  | .Closure_edges => (W.fn .Closure_edges).bindsN fun _ _ _ _ _ _ us hl => match us, hl with | [_], _ => rfl
  | .Closure_circle => (W.fn .Closure_circle).bindsN fun _ _ _ _ _ _ us hl => match us, hl with | [_], _ => rfl
  | .Closure_value => (W.fn .Closure_value).bindsN fun _ _ _ _ _ _ us hl => match us, hl with | [_, _, _], _ => rfl
  | .Closure_filled => (W.fn .Closure_filled).bindsN fun _ _ _ _ _ _ us hl => match us, hl with | [_, _, _], _ => rfl
  | .cut_steps => (W.fn .cut_steps).bindsN fun _ _ _ _ _ _ us hl => match us, hl with | [_, _], _ => rfl
  | .renumbered => (W.fn .renumbered).bindsN fun _ _ _ _ _ _ us hl => match us, hl with | [_, _], _ => rfl
  | .unify => (W.fn .unify).bindsN fun _ _ _ _ _ _ us hl => match us, hl with | [_], _ => rfl
  | .makes_equal => (W.fn .makes_equal).bindsN fun _ _ _ _ _ _ us hl => match us, hl with | [_, _], _ => rfl
  | .law_tape => (W.fn .law_tape).bindsN fun _ _ _ _ _ _ us hl => match us, hl with | [_], _ => rfl
  | .law_take => (W.fn .law_take).bindsN fun _ _ _ _ _ _ us hl => match us, hl with | [_, _], _ => rfl
  | .law_term => (W.fn .law_term).bindsN fun _ _ _ _ _ _ us hl => match us, hl with | [_, _, _], _ => rfl
  | .law_values => (W.fn .law_values).bindsN fun _ _ _ _ _ _ us hl => match us, hl with | [_, _], _ => rfl
  | .law_moved => (W.fn .law_moved).bindsN fun _ _ _ _ _ _ us hl => match us, hl with | [_, _], _ => rfl
  | .law => (W.fn .law).bindsN fun _ _ _ _ _ _ us hl => match us, hl with | [_], _ => rfl
end
theorem hu_of {k : Nat} {A : Around} (h : Room k A) : A.units + 64 < cLine := by
  have := h.un
  omega
section
variable {P : Program} {w : World} {K : PySem.W.Frag} {mg : Str → Option Value} {base : Heap} {name qual : Str} {params : Arguments} {bdy : List Stmt} {scope : Scope} {f : Addr} {fd : FuncData}
theorem okC {N ps : List Str} {k : Nat} {sp : Sp} {ct : Addr} (F : FunD K name qual params bdy scope [] [] f fd) (hc : fd.code = .ref ct) (S : FnScope N ps scope) (len : ∀ vs H Q E, sp vs H Q E → vs.length = ps.length)
    (hbody : ∀ (A : Around) (outer : List PySem.Env) (s : Shared) (H : Hp) (vs : List V) (Q : VK) (E : XK), Room k (A.deeper (envOfC qual scope s.heap.objs.size f (.ref ct))) → sp vs H Q E →
      ∃ t, PSs (cxOf CX0 P w K mg base N qual scope f (.ref ct) A outer s H E) bdy t ∧ t { nx := fun _ H' => Q .non H', rt := Q } (L2.start N vs) H) : FnOk P w K mg base CX0 (k + 1) f fd ps sp := by
  obtain ⟨oc, od, dV, kV, doc, pm, an, cdv, ct', osl, rfl, lk, hcd, _, _⟩ := F.ex
  have hc : cdv = .ref ct := hc
  subst hc
  exact fn_of lk hcd S len fun A outer s H vs Q E hr hsp => hbody A outer s H vs Q E hr hsp
theorem spM_len {T : List (Addr × Str)} {P N : Nat} {b : MS} {vs : List V} {H : Hp} {Q : VK} {E : XK} (h : spM K w mg T (bodyM P N b) vs H Q E) : vs.length = P := by
  obtain ⟨θ, ds, ih, d, ih', h1, h2, h3, _⟩ := h
  rw [h2.length, bodyM_len h3]
end
section
variable {T : List (Addr × Str)} {X : Cx} {k : Nat} {a C : Addr} {fd : FuncData} {ps : List Str} {x : Str} {p pos : Pos} {e : Expr} {es : List Expr} {ms : Env → M (List D)} {m : List D → M D}
theorem mk_ok (hr : Room k X.A) (M : Mk X.K C a) (hg : Gl X x) (hm : X.mg x = some (.ref C)) (hb : Binds X.K fd ps []) (H1 : (∃ j, k = j + 1 ∧ FnOk X.prog X.w X.K X.mg X.base CX0 j a fd ps (spM X.K X.w X.mg T m)) ∨ m = fun _ _ => none) (ha : SA T X (e :: es) ms)
    (hdb : (x == ("__debug__" : Str)) = false := by decide) (he : starEach (e :: es) X.env = (false, eval e X.env) :: starEach es X.env := by rfl) (hpl : (backTo pos (starEach es X.env)).any (·.1) = false := by rfl) :
    SE T X (.Call (.Name x p) (e :: es) [] pos) (xMake x m ms) := by
  rcases H1 with ⟨j, rfl, F⟩ | rfl
  · exact se_make M F hr hg hm hb ha hdb he hpl
  · refine ⟨fun pins s σ H Q I q => ?_⟩
    obtain ⟨θ, ρ, ih, d, ih', h1, h2, h3, h4⟩ := q
    obtain ⟨r, e1, e2⟩ := bindNone h3
    simp at e2
end
end Gh.K67
end
section
set_option Elab.async false
set_option linter.all false
set_option maxRecDepth 100000
/-! Terms: what stands for them, matching, tidying, common forms. Plain Lean. -/
namespace Gh
open PySem PySem.Spec PyProof.Rows L2

inductive Hd where
  | a | b | c | e | f | g | h
  deriving DecidableEq
def Hd.nm : Hd → Str
  | .a => "a"
  | .b => "b"
  | .c => "c"
  | .e => "e"
  | .f => "f"
  | .g => "g"
  | .h => "h"
theorem Hd.nm_inj : ∀ {x y : Hd}, x.nm = y.nm → x = y := by
  intro x y h
  cases x <;> cases y <;> first | rfl | exact absurd h (by decide)
inductive Tm where
  | v (n : Nat) | k (h : Hd) | u (h : Hd) (t : Tm) | b (h : Hd) (s t : Tm)
  deriving DecidableEq
namespace Tm
def enc : Tm → D
  | v n => .int n
  | k h => .tup [.str h.nm]
  | u h t => .tup [.str h.nm, enc t]
  | b h s t => .tup [.str h.nm, enc s, enc t]
theorem enc_inj : ∀ {s t : Tm}, enc s = enc t → s = t
  | v n, t, h => by
    cases t <;> simp [enc] at h
    rw [Int.ofNat.inj h]
  | k n, t, h => by
    cases t <;> simp [enc] at h
    rw [Hd.nm_inj h]
  | u n s, t, h => by
    cases t <;> simp [enc] at h
    rw [Hd.nm_inj h.1, enc_inj h.2]
  | b n s s', t, h => by
    cases t <;> simp [enc] at h
    rw [Hd.nm_inj h.1, enc_inj h.2.1, enc_inj h.2.2]
def isV : Tm → Bool
  | v _ => true
  | _ => false
def dep : Tm → Nat
  | v _ => 0
  | k _ => 1
  | u _ t => t.dep + 1
  | b _ s t => max s.dep t.dep + 1
def size : Tm → Nat
  | v _ => 1
  | k _ => 1
  | u _ t => t.size + 1
  | b _ s t => s.size + t.size + 1
theorem size_pos (t : Tm) : 0 < t.size := by cases t <;> simp [size]
def occ : Tm → List Nat
  | v n => [n]
  | k _ => []
  | u _ t => t.occ
  | b _ s t => s.occ ++ t.occ
/-! keys -/
def key : Tm → NestedKey
  | v n => .num n
  | k h => .tup [.text h.nm]
  | u h t => .tup [.text h.nm, key t]
  | b h s t => .tup [.text h.nm, key s, key t]
theorem key_inj : ∀ {s t : Tm}, key s = key t → s = t
  | v n, t, h => by
    cases t <;> simp [key] at h
    rw [Int.ofNat.inj h]
  | k n, t, h => by
    cases t <;> simp [key] at h
    rw [Hd.nm_inj h]
  | u n s, t, h => by
    cases t <;> simp [key] at h
    rw [Hd.nm_inj h.1, key_inj h.2]
  | b n s s', t, h => by
    cases t <;> simp [key] at h
    rw [Hd.nm_inj h.1, key_inj h.2.1, key_inj h.2.2]
theorem keyOf_enc : ∀ t : Tm, keyOf (enc t) = some (key t)
  | v n => rfl
  | k n => rfl
  | u n s => by simp [enc, key, keyOf, keysOf, keyOf_enc s]
  | b n s s' => by simp [enc, key, keyOf, keysOf, keyOf_enc s, keyOf_enc s']
theorem key_depth : ∀ t : Tm, (key t).depth = t.dep
  | v n => rfl
  | k n => rfl
  | u n s => by simp [key, dep, NestedKey.depth, NestedKey.depthAll, key_depth s]
  | b n s s' => by simp [key, dep, NestedKey.depth, NestedKey.depthAll, key_depth s, key_depth s']
theorem hkey_enc {t : Tm} (h : t.dep ≤ 8) : hkey (enc t) = some (key t) := by
  simp [hkey, keyOf_enc, key_depth, h]
theorem hkey_pair {s t : Tm} (h : s.dep ≤ 7) (h' : t.dep ≤ 7) : hkey (.tup [enc s, enc t]) = some (.tup [key s, key t]) := by
  have e : max s.dep t.dep + 1 ≤ 8 := by omega
  simp [hkey, keyOf, keysOf, keyOf_enc, NestedKey.depth, NestedKey.depthAll, key_depth, e]
/-! == -/
def py : Tm → PyData
  | v n => .int n
  | k h => .tuple [.str h.nm]
  | u h t => .tuple [.str h.nm, py t]
  | b h s t => .tuple [.str h.nm, py s, py t]
theorem pyOf_enc : ∀ t : Tm, pyOf (enc t) = some (py t)
  | v n => rfl
  | k n => rfl
  | u n s => by simp [enc, py, pyOf, pysOf, pyOf_enc s]
  | b n s s' => by simp [enc, py, pyOf, pysOf, pyOf_enc s, pyOf_enc s']
theorem nm_ok (h : Hd) : PyData.strOk h.nm = true := by cases h <;> decide +kernel
theorem py_lay : ∀ t : Tm, (py t).canLay0 = true
  | v n => rfl
  | k n => by simp [py, PyData.canLay0, PyData.canLayAll0, nm_ok]
  | u n s => by simp [py, PyData.canLay0, PyData.canLayAll0, nm_ok, py_lay s]
  | b n s s' => by simp [py, PyData.canLay0, PyData.canLayAll0, nm_ok, py_lay s, py_lay s']
theorem py_depth : ∀ t : Tm, (py t).depth = t.dep
  | v n => by simp [py, PyData.depth, dep]
  | k n => by simp [py, PyData.depth, PyData.depthAll, dep]
  | u n s => by simp [py, PyData.depth, PyData.depthAll, dep, py_depth s]
  | b n s s' => by simp [py, PyData.depth, PyData.depthAll, dep, py_depth s, py_depth s']
theorem eqd_enc {t : Tm} (h : t.dep ≤ 64) : eqd (enc t) = some (py t) := by
  simp [eqd, pyOf_enc, SeqAt.shaped, py_lay, py_depth, h]
theorem py_eqv : ∀ s t : Tm, PyData.eqv (py s) (py t) = decide (s = t)
  | v n, t => by
    cases t <;> simp [py, PyData.eqv]
    rename_i m
    by_cases e : n = m
    · simp [e]
    · simp [e]
      omega
  | k n, t => by
    cases t <;> simp [py, PyData.eqv, PyData.eqvAll]
    rename_i m
    by_cases e : n = m
    · simp [e]
    · have : ¬ n.nm = m.nm := fun z => e (Hd.nm_inj z)
      simp [e, this]
  | u n s, t => by
    cases t <;> simp [py, PyData.eqv, PyData.eqvAll]
    rename_i m t
    rw [py_eqv s t]
    by_cases e : n = m
    · simp [e]
    · have : ¬ n.nm = m.nm := fun z => e (Hd.nm_inj z)
      simp [e, this]
  | b n s s', t => by
    cases t <;> simp [py, PyData.eqv, PyData.eqvAll]
    rename_i m t t'
    rw [py_eqv s t, py_eqv s' t']
    by_cases e : n = m
    · simp [e, Bool.decide_and]
    · have : ¬ n.nm = m.nm := fun z => e (Hd.nm_inj z)
      simp [e, this]
theorem fEq_enc {s t : Tm} (hs : s.dep ≤ 64) (ht : t.dep ≤ 64) (ih : IH) : fEq (enc s) (enc t) ih = some (.bl (decide (s = t)), ih) := by
  simp [fEq, eqd_enc hs, eqd_enc ht, py_eqv]
theorem fNe_enc {s t : Tm} (hs : s.dep ≤ 64) (ht : t.dep ≤ 64) (ih : IH) : fNe (enc s) (enc t) ih = some (.bl (!decide (s = t)), ih) := by
  simp [fNe, eqd_enc hs, eqd_enc ht, py_eqv]
end Tm
end Gh
end
section
set_option Elab.async false
set_option linter.all false
set_option maxRecDepth 100000
/-! Putting in, matching, tidying, common forms: plain laws. -/
namespace Gh
open PySem PySem.Spec PyProof.Rows L2
namespace Tm
/-! ### putting in -/
def sb (σ : Nat → Tm) : Tm → Tm
  | v n => σ n
  | k h => k h
  | u h t => u h (sb σ t)
  | b h s t => b h (sb σ s) (sb σ t)
theorem sb_congr {σ τ : Nat → Tm} : ∀ {t : Tm}, (∀ x ∈ occ t, σ x = τ x) → sb σ t = sb τ t
  | v n, h => h n (by simp [occ])
  | k _, _ => rfl
  | u _ t, h => by
    rw [sb, sb, sb_congr (t := t) h]
  | b _ s t, h => by
    rw [sb, sb, sb_congr (t := s) fun x hx => h x (by simp [occ, hx]), sb_congr (t := t) fun x hx => h x (by simp [occ, hx])]
theorem sb_v : ∀ t : Tm, sb v t = t
  | v n => rfl
  | k _ => rfl
  | u _ t => by rw [sb, sb_v t]
  | b _ s t => by rw [sb, sb_v s, sb_v t]
theorem sb_sb {σ τ : Nat → Tm} : ∀ t : Tm, sb τ (sb σ t) = sb (fun x => sb τ (σ x)) t
  | v n => rfl
  | k _ => rfl
  | u _ t => by rw [sb, sb, sb, sb_sb t]
  | b _ s t => by rw [sb, sb, sb, sb_sb s, sb_sb t]
theorem sb_inj {σ τ : Nat → Tm} : ∀ {t : Tm}, sb σ t = sb τ t → ∀ x ∈ occ t, σ x = τ x
  | v n, h, x, hx => by
    simp [occ] at hx
    subst hx
    exact h
  | k _, _, x, hx => by simp [occ] at hx
  | u _ t, h, x, hx => by
    simp only [sb, u.injEq] at h
    exact sb_inj h.2 x hx
  | b _ s t, h, x, hx => by
    simp only [sb, b.injEq] at h
    rcases List.mem_append.mp hx with q | q
    · exact sb_inj h.2.1 x q
    · exact sb_inj h.2.2 x q
theorem occ_sb {σ : Nat → Tm} : ∀ {t : Tm}, occ (sb σ t) = (occ t).flatMap fun x => occ (σ x)
  | v n => by simp [sb, occ]
  | k _ => by simp [sb, occ]
  | u _ t => by simp [sb, occ, occ_sb (t := t)]
  | b _ s t => by simp [sb, occ, occ_sb (t := s), occ_sb (t := t)]
/-- more general than -/
def Le (s t : Tm) : Prop := ∃ σ, sb σ s = t
theorem Le.refl (t : Tm) : Le t t := ⟨v, sb_v t⟩
theorem Le.trans {s t r : Tm} (h : Le s t) (h' : Le t r) : Le s r := by
  obtain ⟨σ, rfl⟩ := h
  obtain ⟨τ, rfl⟩ := h'
  exact ⟨fun x => sb τ (σ x), (sb_sb s).symm⟩
theorem size_sb_le {σ : Nat → Tm} : ∀ t : Tm, size t ≤ size (sb σ t)
  | v n => by
    have := size_pos (σ n)
    simp only [sb, size]
    omega
  | k _ => Nat.le_refl _
  | u _ t => by
    have := size_sb_le (σ := σ) t
    simp only [sb, size]
    omega
  | b _ s t => by
    have := size_sb_le (σ := σ) s
    have := size_sb_le (σ := σ) t
    simp only [sb, size]
    omega
theorem Le.size {s t : Tm} (h : Le s t) : s.size ≤ t.size := by
  obtain ⟨σ, rfl⟩ := h
  exact size_sb_le s
/-! ### rows of values -/
abbrev AL := List (Nat × Tm)
def fn (l : AL) (x : Nat) : Tm := (l.lookup x).getD (v x)
theorem lookup_snoc {α : Type} {l : List (Nat × α)} {x : Nat} {t : α} {y : Nat} : (l ++ [(x, t)]).lookup y = (l.lookup y).or (if y = x then some t else none) := by
  induction l with
  | nil =>
    by_cases e : y = x
    · simp [List.lookup, e]
    · have : (y == x) = false := by simpa using e
      simp [List.lookup, e, this]
  | cons p l ih =>
    obtain ⟨z, s⟩ := p
    by_cases e : y = z
    · simp [List.lookup, e]
    · have : (y == z) = false := by simpa using e
      simp [List.lookup, this, ih]
/-! ### matching -/
def mt : Tm → Tm → AL → Bool × AL
  | v x, t, l => match l.lookup x with
    | some s => (decide (s = t), l)
    | none => (true, l ++ [(x, t)])
  | k h, k h', l => (decide (h = h'), l)
  | u h p, u h' t, l => if h = h' then mt p t l else (false, l)
  | b h p q, b h' t r, l => if h = h' then ((mt p t l).1 && (mt q r (mt p t l).2).1, (mt q r (mt p t l).2).2) else (false, l)
  | _, _, l => (false, l)
/-- l' goes on l -/
def Ext (l l' : AL) : Prop := ∀ x s, l.lookup x = some s → l'.lookup x = some s
theorem Ext.refl (l : AL) : Ext l l := fun _ _ h => h
theorem Ext.trans {a b c : AL} (h : Ext a b) (h' : Ext b c) : Ext a c := fun x s q => h' x s (h x s q)
theorem mt_ext : ∀ (p t : Tm) (l : AL), Ext l (mt p t l).2
  | v x, t, l => by
    rw [mt]
    split
    · exact .refl l
    · intro y s h
      rw [lookup_snoc, h]
      rfl
  | k h, t, l => by
    cases t <;> simp only [mt] <;> exact .refl l
  | u h p, t, l => by
    cases t <;> simp only [mt] <;> first | exact .refl l | skip
    split
    · exact mt_ext p _ l
    · exact .refl l
  | b h p q, t, l => by
    cases t <;> simp only [mt] <;> first | exact .refl l | skip
    split
    · exact (mt_ext p _ l).trans (mt_ext q _ _)
    · exact .refl l
theorem mt_sound : ∀ {p t : Tm} {l : AL}, (mt p t l).1 = true → ∀ {l' : AL}, Ext (mt p t l).2 l' → sb (fn l') p = t
  | v x, t, l, h, l', e => by
    rw [mt] at h e
    split at h
    · rename_i s hs
      rw [hs] at e
      have := e x s hs
      simp at h
      simp [sb, fn, this, h]
    · rename_i hs
      rw [hs] at e
      have := e x t (by rw [lookup_snoc, hs]; simp)
      simp [sb, fn, this]
  | k h, t, l, hh, l', e => by
    cases t <;> simp only [mt] at hh <;> first | cases hh | skip
    simp at hh
    rw [hh]
    rfl
  | u h p, t, l, hh, l', e => by
    cases t <;> simp only [mt] at hh e <;> first | cases hh | skip
    split at hh
    · rename_i q
      rw [if_pos q] at e
      rw [sb, mt_sound hh e, q]
    · cases hh
  | b h p q, t, l, hh, l', e => by
    cases t <;> simp only [mt] at hh e <;> first | cases hh | skip
    split at hh
    · rename_i z
      rw [if_pos z] at e
      simp only [Bool.and_eq_true] at hh
      rw [sb, mt_sound hh.1 ((mt_ext q _ _).trans e), mt_sound hh.2 e, z]
    · cases hh
theorem mt_complete {σ : Nat → Tm} : ∀ {p : Tm} {l : AL}, (∀ x s, l.lookup x = some s → σ x = s) → (mt p (sb σ p) l).1 = true ∧ ∀ x s, (mt p (sb σ p) l).2.lookup x = some s → σ x = s
  | v x, l, h => by
    rw [mt]
    split
    · rename_i s hs
      exact ⟨by simp [sb, h x s hs], h⟩
    · refine ⟨rfl, fun y s q => ?_⟩
      simp only [lookup_snoc] at q
      cases e : l.lookup y with
      | some r =>
        rw [e] at q
        cases q
        exact h y _ e
      | none =>
        rw [e] at q
        simp only [Option.none_or] at q
        split at q
        · rename_i e2
          cases q
          rw [e2, sb]
        · cases q
  | k h, l, hl => by simpa [mt, sb] using hl
  | u h p, l, hl => by
    simp only [sb, mt, if_true]
    exact mt_complete hl
  | b h p q, l, hl => by
    simp only [sb, mt, if_true]
    have a := mt_complete (p := p) hl
    have c := mt_complete (p := q) a.2
    exact ⟨by simp [a.1, c.1], c.2⟩
theorem mt_iff {p t : Tm} : (mt p t []).1 = true ↔ Le p t := by
  constructor
  · intro h
    exact ⟨_, mt_sound h (.refl _)⟩
  · rintro ⟨σ, rfl⟩
    exact (mt_complete fun x s h => by simp at h).1
theorem get_ix {α : Type} [BEq α] [LawfulBEq α] {x : α} : ∀ {l : List α}, x ∈ l → l[l.idxOf x]? = some x
  | [], h => by cases h
  | y :: l, h => by
    rw [List.idxOf_cons]
    by_cases e : y = x
    · simp [e]
    · have e1 : (y == x) = false := by simpa using e
      rw [e1]
      simp only [cond_false, List.getElem?_cons_succ]
      rcases List.mem_cons.mp h with q | q
      · exact absurd q.symm e
      · exact get_ix q
theorem flat_one {α β : Type} (f : α → β) : ∀ l : List α, (l.flatMap fun x => [f x]) = l.map f
  | [] => rfl
  | x :: l => by simp [flat_one f l]
/-! ### tidying -/
def dd : List Nat → List Nat → List Nat
  | acc, [] => acc
  | acc, x :: xs => if x ∈ acc then dd acc xs else dd (acc ++ [x]) xs
theorem dd_append : ∀ (xs ys acc : List Nat), dd acc (xs ++ ys) = dd (dd acc xs) ys
  | [], ys, acc => rfl
  | x :: xs, ys, acc => by
    rw [List.cons_append, dd, dd]
    split
    · exact dd_append xs ys acc
    · exact dd_append xs ys _
theorem dd_mem {x : Nat} : ∀ {xs acc : List Nat}, x ∈ dd acc xs ↔ x ∈ acc ∨ x ∈ xs
  | [], acc => by simp [dd]
  | y :: xs, acc => by
    rw [dd]
    split
    · rename_i h
      rw [dd_mem]
      constructor
      · rintro (q | q)
        · exact .inl q
        · exact .inr (List.mem_cons_of_mem _ q)
      · rintro (q | q)
        · exact .inl q
        · rcases List.mem_cons.mp q with rfl | q
          · exact .inl h
          · exact .inr q
    · rw [dd_mem]
      simp [or_assoc]
theorem dd_nodup : ∀ {xs acc : List Nat}, acc.Nodup → (dd acc xs).Nodup
  | [], acc, h => h
  | y :: xs, acc, h => by
    rw [dd]
    split
    · exact dd_nodup h
    · rename_i q
      refine dd_nodup ?_
      rw [List.nodup_append]
      exact ⟨h, by simp, fun a ha b hb => by simp at hb; subst hb; exact fun e => q (e ▸ ha)⟩
def ix (l : List Nat) (x : Nat) : Nat := l.idxOf x
theorem idxOf_map {f : Nat → Nat} {x : Nat} : ∀ {l : List Nat}, (∀ y ∈ l, f y = f x → y = x) → (l.map f).idxOf (f x) = l.idxOf x
  | [], _ => rfl
  | y :: l, h => by
    rw [List.map_cons, List.idxOf_cons, List.idxOf_cons]
    by_cases e : y = x
    · simp [e]
    · have : ¬ f y = f x := fun z => e (h y (List.mem_cons_self ..) z)
      have e1 : (y == x) = false := by simpa using e
      have e2 : (f y == f x) = false := by simpa using this
      rw [e1, e2]
      simp only [cond_false]
      rw [idxOf_map fun z hz => h z (List.mem_cons_of_mem _ hz)]
theorem dd_map {f : Nat → Nat} : ∀ {xs acc : List Nat}, (∀ x ∈ acc ++ xs, ∀ y ∈ acc ++ xs, f x = f y → x = y) → dd (acc.map f) (xs.map f) = (dd acc xs).map f
  | [], acc, _ => rfl
  | x :: xs, acc, h => by
    rw [List.map_cons, dd, dd]
    have e : f x ∈ acc.map f ↔ x ∈ acc := by
      constructor
      · intro q
        obtain ⟨y, h1, h2⟩ := List.mem_map.mp q
        have := h y (by simp [h1]) x (by simp) h2
        exact this ▸ h1
      · intro q
        exact List.mem_map_of_mem q
    by_cases q : x ∈ acc
    · rw [if_pos (e.mpr q), if_pos q]
      refine dd_map fun a ha b hb => h a ?_ b ?_ <;> simp at * <;> grind
    · rw [if_neg fun z => q (e.mp z), if_neg q]
      have := dd_map (f := f) (xs := xs) (acc := acc ++ [x]) fun a ha b hb => h a (by simpa using ha) b (by simpa using hb)
      rw [List.map_append] at this
      exact this
def tidy (t : Tm) : Tm := sb (fun x => v (ix (dd [] (occ t)) x)) t
theorem le_tidy (t : Tm) : Le t (tidy t) := ⟨_, rfl⟩
theorem tidy_le (t : Tm) : Le (tidy t) t := by
  refine ⟨fun i => v ((dd [] (occ t)).getD i 0), ?_⟩
  rw [tidy, sb_sb]
  refine (sb_congr fun x hx => ?_).trans (sb_v t)
  simp only [sb, ix]
  have hm : x ∈ dd [] (occ t) := dd_mem.mpr (.inr hx)
  rw [List.getD_eq_getElem?_getD, get_ix hm]
  rfl
theorem tidy_map {ρ : Nat → Nat} {t : Tm} (h : ∀ x ∈ occ t, ∀ y ∈ occ t, ρ x = ρ y → x = y) : tidy (sb (fun x => v (ρ x)) t) = tidy t := by
  rw [tidy, tidy, sb_sb]
  refine sb_congr fun x hx => ?_
  have e : occ (sb (fun x => v (ρ x)) t) = (occ t).map ρ := by
    rw [occ_sb]
    exact flat_one ρ _
  simp only [sb, e]
  have := dd_map (f := ρ) (xs := occ t) (acc := []) (by simpa using h)
  rw [List.map_nil] at this
  rw [this, ix, ix, idxOf_map]
  intro y hy
  rcases dd_mem.mp hy with q | q
  · simp at q
  · exact h y q x hx
theorem isV_of {t : Tm} {σ : Nat → Tm} {x : Nat} (h : sb σ t = v x) : ∃ y, t = v y := by
  cases t <;> simp [sb] at h
  exact ⟨_, rfl⟩
theorem tidy_eq_iff {s t : Tm} : tidy s = tidy t ↔ Le s t ∧ Le t s := by
  constructor
  · intro h
    exact ⟨(le_tidy s).trans (h ▸ tidy_le t), (le_tidy t).trans (h ▸ tidy_le s)⟩
  · rintro ⟨⟨σ, rfl⟩, τ, e⟩
    rw [sb_sb] at e
    have q : ∀ x ∈ occ s, sb τ (σ x) = v x := sb_inj (e.trans (sb_v s).symm)
    have w : ∀ x ∈ occ s, σ x = v (match σ x with | v y => y | _ => 0) := fun x hx => by
      obtain ⟨y, hy⟩ := isV_of (q x hx)
      rw [hy]
    rw [sb_congr w]
    refine (tidy_map fun x hx y hy e2 => ?_).symm
    have : σ x = σ y := by
      rw [w x hx, w y hy]
      exact congrArg v e2
    have e3 := (q x hx).symm.trans (this ▸ q y hy)
    exact v.inj e3
theorem size_tidy (t : Tm) : (tidy t).size = t.size := Nat.le_antisymm (tidy_le t).size (le_tidy t).size
/-! ### the common form -/
abbrev PL := List (Tm × Tm)
def jn (s t : Tm) (acc : PL) : Tm × PL := if (s, t) ∈ acc then (v (acc.idxOf (s, t)), acc) else (v acc.length, acc ++ [(s, t)])
def jt : Tm → Tm → PL → Tm × PL
  | k h, k h', acc => if h = h' then (k h, acc) else jn (k h) (k h') acc
  | u h s, u h' t, acc => if h = h' then (u h (jt s t acc).1, (jt s t acc).2) else jn (u h s) (u h' t) acc
  | b h s s', b h' t t', acc => if h = h' then (b h (jt s t acc).1 (jt s' t' (jt s t acc).2).1, (jt s' t' (jt s t acc).2).2) else jn (b h s s') (b h' t t') acc
  | s, t, acc => jn s t acc
/-- the same, by a row of pairs that is whole -/
def jf (acc : PL) : Tm → Tm → Tm
  | k h, k h' => if h = h' then k h else v (acc.idxOf (k h, k h'))
  | u h s, u h' t => if h = h' then u h (jf acc s t) else v (acc.idxOf (u h s, u h' t))
  | b h s s', b h' t t' => if h = h' then b h (jf acc s t) (jf acc s' t') else v (acc.idxOf (b h s s', b h' t t'))
  | s, t => v (acc.idxOf (s, t))
theorem jn_pre (s t : Tm) (acc : PL) : acc <+: (jn s t acc).2 := by
  unfold jn
  split
  · exact List.prefix_rfl
  · exact List.prefix_append ..
theorem jt_pre : ∀ (s t : Tm) (acc : PL), acc <+: (jt s t acc).2
  | v n, t, acc => by simp only [jt]; exact jn_pre ..
  | k h, t, acc => by
    cases t <;> simp only [jt] <;> first | exact jn_pre .. | skip
    split
    · exact List.prefix_rfl
    · exact jn_pre ..
  | u h s, t, acc => by
    cases t <;> simp only [jt] <;> first | exact jn_pre .. | skip
    split
    · exact jt_pre s _ acc
    · exact jn_pre ..
  | b h s s', t, acc => by
    cases t <;> simp only [jt] <;> first | exact jn_pre .. | skip
    split
    · exact (jt_pre s _ acc).trans (jt_pre s' _ _)
    · exact jn_pre ..
theorem idxOf_pre {l l' : PL} (h : l <+: l') {x : Tm × Tm} (hx : x ∈ l) : l'.idxOf x = l.idxOf x := by
  obtain ⟨r, rfl⟩ := h
  rw [List.idxOf_append, if_pos hx]
theorem jn_jf {s t : Tm} {acc l : PL} (h : (jn s t acc).2 <+: l) : (jn s t acc).1 = v (l.idxOf (s, t)) := by
  unfold jn at h ⊢
  split
  · rename_i q
    rw [if_pos q] at h
    rw [idxOf_pre h q]
  · rename_i q
    rw [if_neg q] at h
    rw [idxOf_pre h (by simp), List.idxOf_append, if_neg q]
    simp
theorem jt_jf : ∀ {s t : Tm} {acc l : PL}, (jt s t acc).2 <+: l → (jt s t acc).1 = jf l s t
  | v n, t, acc, l, h => by
    simp only [jt, jf] at h ⊢
    exact jn_jf h
  | k h, t, acc, l, hh => by
    cases t <;> simp only [jt, jf] at hh ⊢ <;> first | exact jn_jf hh | skip
    split
    · rfl
    · rename_i q
      rw [if_neg q] at hh
      exact jn_jf hh
  | u h s, t, acc, l, hh => by
    cases t <;> simp only [jt, jf] at hh ⊢ <;> first | exact jn_jf hh | skip
    split
    · rename_i q
      rw [if_pos q] at hh
      rw [jt_jf hh]
    · rename_i q
      rw [if_neg q] at hh
      exact jn_jf hh
  | b h s s', t, acc, l, hh => by
    cases t <;> simp only [jt, jf] at hh ⊢ <;> first | exact jn_jf hh | skip
    split
    · rename_i q
      rw [if_pos q] at hh
      rw [jt_jf ((jt_pre s' _ _).trans hh), jt_jf hh]
    · rename_i q
      rw [if_neg q] at hh
      exact jn_jf hh
theorem jf_sb {acc : PL} {θ1 θ2 : Nat → Tm} : ∀ r : Tm, jf acc (sb θ1 r) (sb θ2 r) = sb (fun x => jf acc (θ1 x) (θ2 x)) r
  | v n => rfl
  | k h => by simp [sb, jf]
  | u h t => by simp [sb, jf, jf_sb t]
  | b h s t => by simp [sb, jf, jf_sb s, jf_sb t]
def lgg (s t : Tm) : Tm := (jt s t []).1
def lgn (s t : Tm) : PL := (jt s t []).2
theorem lgg_jf (s t : Tm) : lgg s t = jf (lgn s t) s t := jt_jf List.prefix_rfl
theorem le_lgg {r s t : Tm} (h : Le r s) (h' : Le r t) : Le r (lgg s t) := by
  obtain ⟨θ1, rfl⟩ := h
  obtain ⟨θ2, rfl⟩ := h'
  rw [lgg_jf]
  exact ⟨_, (jf_sb r).symm⟩
/-- all pairs that are met stand in the row -/
def Met (l : PL) : Tm → Tm → Prop
  | k h, k h' => h = h' ∨ (k h, k h') ∈ l
  | u h s, u h' t => (h = h' ∧ Met l s t) ∨ (h ≠ h' ∧ (u h s, u h' t) ∈ l)
  | b h s s', b h' t t' => (h = h' ∧ Met l s t ∧ Met l s' t') ∨ (h ≠ h' ∧ (b h s s', b h' t t') ∈ l)
  | s, t => (s, t) ∈ l
theorem jn_mem {s t : Tm} {acc l : PL} (h : (jn s t acc).2 <+: l) : (s, t) ∈ l := by
  refine h.subset ?_
  unfold jn
  split
  · assumption
  · simp
theorem jt_met : ∀ {s t : Tm} {acc l : PL}, (jt s t acc).2 <+: l → Met l s t
  | v n, t, acc, l, h => by
    simp only [jt, Met] at h ⊢
    exact jn_mem h
  | k h, t, acc, l, hh => by
    cases t <;> simp only [jt, Met] at hh ⊢ <;> first | exact jn_mem hh | skip
    split at hh
    · rename_i q
      exact .inl q
    · exact .inr (jn_mem hh)
  | u h s, t, acc, l, hh => by
    cases t <;> simp only [jt, Met] at hh ⊢ <;> first | exact jn_mem hh | skip
    split at hh
    · rename_i q
      exact .inl ⟨q, jt_met hh⟩
    · rename_i q
      exact .inr ⟨q, jn_mem hh⟩
  | b h s s', t, acc, l, hh => by
    cases t <;> simp only [jt, Met] at hh ⊢ <;> first | exact jn_mem hh | skip
    split at hh
    · rename_i q
      exact .inl ⟨q, jt_met ((jt_pre s' _ _).trans hh), jt_met hh⟩
    · rename_i q
      exact .inr ⟨q, jn_mem hh⟩
def lf (l : PL) (i : Nat) : Tm := ((l[i]?).map (·.1)).getD (v i)
def rf (l : PL) (i : Nat) : Tm := ((l[i]?).map (·.2)).getD (v i)
theorem lf_ix {l : PL} {s t : Tm} (h : (s, t) ∈ l) : lf l (l.idxOf (s, t)) = s := by simp [lf, get_ix h]
theorem rf_ix {l : PL} {s t : Tm} (h : (s, t) ∈ l) : rf l (l.idxOf (s, t)) = t := by simp [rf, get_ix h]
theorem jf_left {l : PL} : ∀ {s t : Tm}, Met l s t → sb (lf l) (jf l s t) = s
  | v n, t, h => by
    simp only [jf, Met, sb] at h ⊢
    exact lf_ix h
  | k h, t, hh => by
    cases t <;> simp only [jf, Met] at hh ⊢ <;> first | exact lf_ix hh | skip
    split
    · rfl
    · rename_i q
      exact lf_ix (hh.resolve_left q)
  | u h s, t, hh => by
    cases t <;> simp only [jf, Met] at hh ⊢ <;> first | exact lf_ix hh | skip
    split
    · rename_i q
      rw [sb, jf_left (hh.resolve_right fun z => z.1 q).2]
    · rename_i q
      exact lf_ix (hh.resolve_left fun z => q z.1).2
  | b h s s', t, hh => by
    cases t <;> simp only [jf, Met] at hh ⊢ <;> first | exact lf_ix hh | skip
    split
    · rename_i q
      have z := (hh.resolve_right fun z => z.1 q).2
      rw [sb, jf_left z.1, jf_left z.2]
    · rename_i q
      exact lf_ix (hh.resolve_left fun z => q z.1).2
theorem jf_right {l : PL} : ∀ {s t : Tm}, Met l s t → sb (rf l) (jf l s t) = t
  | v n, t, h => by
    simp only [jf, Met, sb] at h ⊢
    exact rf_ix h
  | k h, t, hh => by
    cases t <;> simp only [jf, Met] at hh ⊢ <;> first | exact rf_ix hh | skip
    split
    · rename_i q
      rw [q]
      rfl
    · rename_i q
      exact rf_ix (hh.resolve_left q)
  | u h s, t, hh => by
    cases t <;> simp only [jf, Met] at hh ⊢ <;> first | exact rf_ix hh | skip
    split
    · rename_i q
      rw [sb, jf_right (hh.resolve_right fun z => z.1 q).2, q]
    · rename_i q
      exact rf_ix (hh.resolve_left fun z => q z.1).2
  | b h s s', t, hh => by
    cases t <;> simp only [jf, Met] at hh ⊢ <;> first | exact rf_ix hh | skip
    split
    · rename_i q
      have z := (hh.resolve_right fun z => z.1 q).2
      rw [sb, jf_right z.1, jf_right z.2, q]
    · rename_i q
      exact rf_ix (hh.resolve_left fun z => q z.1).2
theorem lgg_left (s t : Tm) : sb (lf (lgn s t)) (lgg s t) = s := by
  rw [lgg_jf]
  exact jf_left (jt_met List.prefix_rfl)
theorem lgg_right (s t : Tm) : sb (rf (lgn s t)) (lgg s t) = t := by
  rw [lgg_jf]
  exact jf_right (jt_met List.prefix_rfl)
theorem lgg_le1 (s t : Tm) : Le (lgg s t) s := ⟨_, lgg_left s t⟩
theorem lgg_le2 (s t : Tm) : Le (lgg s t) t := ⟨_, lgg_right s t⟩
theorem lgg_comm (s t : Tm) : tidy (lgg s t) = tidy (lgg t s) := tidy_eq_iff.mpr ⟨le_lgg (lgg_le2 ..) (lgg_le1 ..), le_lgg (lgg_le2 ..) (lgg_le1 ..)⟩
theorem lgg_assoc (r s t : Tm) : tidy (lgg (lgg r s) t) = tidy (lgg r (lgg s t)) := tidy_eq_iff.mpr
  ⟨le_lgg ((lgg_le1 ..).trans (lgg_le1 ..)) (le_lgg ((lgg_le1 ..).trans (lgg_le2 ..)) (lgg_le2 ..)), le_lgg (le_lgg (lgg_le1 ..) ((lgg_le2 ..).trans (lgg_le1 ..))) ((lgg_le2 ..).trans (lgg_le2 ..))⟩
theorem lgg_of_le {s t : Tm} (h : Le s t) : tidy (lgg s t) = tidy s := tidy_eq_iff.mpr ⟨lgg_le1 .., le_lgg (.refl s) h⟩
theorem tidy_tidy (t : Tm) : tidy (tidy t) = tidy t := tidy_eq_iff.mpr ⟨tidy_le t, le_tidy t⟩
/-! depths -/
theorem dep_sb_le {σ : Nat → Tm} {n m : Nat} (h : ∀ x, (σ x).dep ≤ m) : ∀ {t : Tm}, t.dep ≤ n → (sb σ t).dep ≤ n + m
  | v x, _ => by
    have := h x
    simp only [sb]
    omega
  | k _, h1 => by
    simp only [sb, dep] at *
    omega
  | u _ t, h1 => by
    simp only [dep] at h1
    have := dep_sb_le h (n := n - 1) (t := t) (by omega)
    simp only [sb, dep]
    omega
  | b _ s t, h1 => by
    simp only [dep] at h1
    have := dep_sb_le h (n := n - 1) (t := s) (by omega)
    have := dep_sb_le h (n := n - 1) (t := t) (by omega)
    simp only [sb, dep]
    omega
theorem dep_le_sb {σ : Nat → Tm} : ∀ {t : Tm}, t.dep ≤ (sb σ t).dep
  | v x => Nat.zero_le _
  | k _ => Nat.le_refl _
  | u _ t => by
    have := dep_le_sb (σ := σ) (t := t)
    simp only [sb, dep]
    omega
  | b _ s t => by
    have := dep_le_sb (σ := σ) (t := s)
    have := dep_le_sb (σ := σ) (t := t)
    simp only [sb, dep]
    omega
theorem Le.dep {s t : Tm} (h : Le s t) : s.dep ≤ t.dep := by
  obtain ⟨σ, rfl⟩ := h
  exact dep_le_sb
end Tm
end Gh
end
section
set_option Elab.async false
set_option linter.all false
set_option maxRecDepth 100000
/-! Unifying: the plain law. -/
namespace Gh
open PySem PySem.Spec PyProof.Rows L2
namespace Tm
inductive Why where
  | gv (i : Nat) | tn (i : Nat) | pt (i j : Nat) | ch (i j : Nat)
abbrev Stp := Tm × Tm × Why
def refs : Why → List Nat
  | .gv _ => []
  | .tn i => [i]
  | .pt i _ => [i]
  | .ch i j => [i, j]
def prs (S : List Stp) : PL := S.map fun x => (x.1, x.2.1)
def nt (S : List Stp) (s t : Tm) (w : Why) : List Stp := if (s, t) ∈ prs S ∨ s = t then S else S ++ [(s, t, w)]
def args : Tm → List Tm
  | v _ => []
  | k _ => []
  | u _ t => [t]
  | b _ s t => [s, t]
def same : Tm → Tm → Bool
  | k h, k h' => decide (h = h')
  | u h _, u h' _ => decide (h = h')
  | b h _ _, b h' _ _ => decide (h = h')
  | _, _ => false
def lefts (S : List Stp) (t : Tm) : List Nat := (List.range S.length).filter fun i => decide ((S[i]?).map (·.1) = some t)
def ntP (i : Nat) : Nat → PL → List Stp → List Stp
  | _, [], S => S
  | j, p :: r, S => ntP i (j + 1) r (nt S p.1 p.2 (.pt i j))
def ntL (i : Nat) (s : Tm) : List Nat → List Stp → List Stp
  | [], S => S
  | o :: r, S => ntL i s r (match S[o]? with
    | some x => nt S s x.2.1 (.ch i o)
    | none => S)
def ntR (i : Nat) (s t : Tm) : List Nat → List Stp → List Stp
  | [], S => S
  | o :: r, S => ntR i s t r (match S[o]? with
    | some x => if x.2.1 = s then nt S x.1 t (.ch o i) else S
    | none => S)
def go1 (S : List Stp) (i : Nat) (s t : Tm) : List Stp := nt S t s (.tn i)
def go2 (S : List Stp) (i : Nat) (s t : Tm) : List Stp := if same s t = true then ntP i 0 ((args s).zip (args t)) (go1 S i s t) else go1 S i s t
def go3 (S : List Stp) (i : Nat) (s t : Tm) : List Stp := ntL i s (lefts (go2 S i s t) t) (go2 S i s t)
def go4 (S : List Stp) (i : Nat) (s t : Tm) : List Stp := ntR i s t (List.range (go3 S i s t).length) (go3 S i s t)
def goOn (S : List Stp) (i : Nat) : List Stp := match S[i]? with
  | none => S
  | some x => go4 S i x.1 x.2.1
def clo : Nat → List Stp → Nat → List Stp
  | 0, S, _ => S
  | n + 1, S, i => if i < S.length then clo n (goOn S i) (i + 1) else S
def ntG : Nat → PL → List Stp → List Stp
  | _, [], S => S
  | i, p :: r, S => ntG (i + 1) r (nt S p.1 p.2 (.gv i))
/-! ### growing -/
def Sound (θ : Nat → Tm) (S : List Stp) : Prop := ∀ x ∈ S, sb θ x.1 = sb θ x.2.1
inductive Grow (U : List Tm) (G : (Nat → Tm) → Prop) : List Stp → List Stp → Prop
  | refl (S : List Stp) : Grow U G S S
  | step {S S' : List Stp} {s t : Tm} {w : Why} : Grow U G S S' → s ∈ U → t ∈ U → (∀ θ, G θ → Sound θ S' → sb θ s = sb θ t) → (∀ r ∈ refs w, r < S'.length) → Grow U G S (nt S' s t w)
section
variable {U : List Tm} {G : (Nat → Tm) → Prop}
theorem Grow.trans {a b c : List Stp} (h : Grow U G a b) (h' : Grow U G b c) : Grow U G a c := by
  induction h' with
  | refl => exact h
  | step _ h1 h2 h3 h4 ih => exact .step ih h1 h2 h3 h4
theorem nt_pre (S : List Stp) (s t : Tm) (w : Why) : S <+: nt S s t w := by
  unfold nt
  split
  · exact List.prefix_rfl
  · exact List.prefix_append ..
theorem Grow.pre {S S' : List Stp} (h : Grow U G S S') : S <+: S' := by
  induction h with
  | refl => exact List.prefix_rfl
  | step _ _ _ _ _ ih => exact ih.trans (nt_pre ..)
theorem nt_sound {θ : Nat → Tm} {S : List Stp} {s t : Tm} {w : Why} (h : Sound θ S) (e : sb θ s = sb θ t) : Sound θ (nt S s t w) := by
  unfold nt
  split
  · exact h
  · intro x hx
    rcases List.mem_append.mp hx with q | q
    · exact h x q
    · simp at q
      subst q
      exact e
theorem Grow.sound {S S' : List Stp} {θ : Nat → Tm} (h : Grow U G S S') (g : G θ) (hs : Sound θ S) : Sound θ S' := by
  induction h with
  | refl => exact hs
  | step _ _ _ h3 _ ih => exact nt_sound ih (h3 θ g ih)
structure Good (U : List Tm) (S : List Stp) : Prop where
  inU : ∀ x ∈ S, x.1 ∈ U ∧ x.2.1 ∈ U
  nd : (prs S).Nodup
  ne : ∀ x ∈ S, x.1 ≠ x.2.1
  rf : ∀ (i : Nat) (x : Stp), S[i]? = some x → ∀ r ∈ refs x.2.2, r < i
theorem Good.nil : Good U [] := ⟨by simp, by simp [prs], by simp, by simp⟩
theorem Good.nt {S : List Stp} {s t : Tm} {w : Why} (h : Good U S) (hs : s ∈ U) (ht : t ∈ U) (hr : ∀ r ∈ refs w, r < S.length) : Good U (nt S s t w) := by
  unfold Tm.nt
  split
  · exact h
  · rename_i q
    refine ⟨fun x hx => ?_, ?_, fun x hx => ?_, fun i x hx r q2 => ?_⟩
    · rcases List.mem_append.mp hx with z | z
      · exact h.inU x z
      · simp at z
        subst z
        exact ⟨hs, ht⟩
    · rw [prs, List.map_append, List.nodup_append]
      refine ⟨h.nd, by simp, fun a ha b hb e => ?_⟩
      simp at hb
      subst hb
      subst e
      exact q (.inl ha)
    · rcases List.mem_append.mp hx with z | z
      · exact h.ne x z
      · simp at z
        subst z
        exact fun e => q (.inr e)
    · rw [List.getElem?_append] at hx
      split at hx
      · exact h.rf i x hx r q2
      · rename_i hl
        have : i = S.length := by
          have := (List.getElem?_eq_some_iff.mp hx).1
          simp at this
          omega
        subst this
        simp at hx
        subst hx
        exact hr r q2
theorem Grow.good {S S' : List Stp} (h : Grow U G S S') (hg : Good U S) : Good U S' := by
  induction h with
  | refl => exact hg
  | step _ h1 h2 _ h4 ih => exact ih.nt h1 h2 h4
/-- equal by the steps -/
def Rl (S : List Stp) (s t : Tm) : Prop := (s, t) ∈ prs S ∨ s = t
theorem prs_mono {S S' : List Stp} (h : S <+: S') {p : Tm × Tm} (hp : p ∈ prs S) : p ∈ prs S' := (h.map _).subset hp
theorem Rl.mono {S S' : List Stp} (h : S <+: S') {s t : Tm} (r : Rl S s t) : Rl S' s t := r.elim (fun q => .inl (prs_mono h q)) .inr
theorem nt_rl (S : List Stp) (s t : Tm) (w : Why) : Rl (nt S s t w) s t := by
  unfold nt
  split
  · assumption
  · left
    simp [prs]
theorem Rl.sound {S : List Stp} {θ : Nat → Tm} (h : Sound θ S) {s t : Tm} (r : Rl S s t) : sb θ s = sb θ t := by
  rcases r with q | rfl
  · obtain ⟨x, hx, e⟩ := List.mem_map.mp q
    cases e
    exact h x hx
  · rfl
theorem get_pre {α : Type} {S S' : List α} (h : S <+: S') {i : Nat} {x : α} (hx : S[i]? = some x) : S'[i]? = some x := by
  obtain ⟨r, rfl⟩ := h
  rw [List.getElem?_append_left (List.getElem?_eq_some_iff.mp hx).1]
  exact hx
theorem mem_prs {S : List Stp} {i : Nat} {x : Stp} (h : S[i]? = some x) : (x.1, x.2.1) ∈ prs S := List.mem_map.mpr ⟨x, List.mem_of_getElem? h, rfl⟩
theorem sound_get {S : List Stp} {θ : Nat → Tm} (h : Sound θ S) {i : Nat} {x : Stp} (hx : S[i]? = some x) : sb θ x.1 = sb θ x.2.1 := h x (List.mem_of_getElem? hx)
theorem same_args {θ : Nat → Tm} {s t : Tm} (h : same s t = true) (e : sb θ s = sb θ t) : ∀ p ∈ (args s).zip (args t), sb θ p.1 = sb θ p.2 := by
  intro p hp
  cases s <;> cases t <;> simp [same] at h <;> simp [args] at hp
  · subst hp
    simp [sb] at e
    exact e.2
  · simp [sb] at e
    rcases hp with rfl | rfl
    · exact e.2.1
    · exact e.2.2
theorem ntP_grow {i : Nat} {x : Stp} : ∀ {r : PL} {j : Nat} {S : List Stp}, S[i]? = some x → (∀ p ∈ r, p.1 ∈ U ∧ p.2 ∈ U) → (∀ θ, Sound θ S → ∀ p ∈ r, sb θ p.1 = sb θ p.2) → Grow U G S (ntP i j r S)
  | [], j, S, _, _, _ => .refl S
  | p :: r, j, S, hx, hU, hs => by
    rw [ntP]
    have a : Grow U G S (nt S p.1 p.2 (.pt i j)) := .step (.refl S) (hU p (List.mem_cons_self ..)).1 (hU p (List.mem_cons_self ..)).2 (fun θ _ q => hs θ q p (List.mem_cons_self ..)) (by
      simp [refs]
      exact (List.getElem?_eq_some_iff.mp hx).1)
    refine a.trans (ntP_grow (get_pre a.pre hx) (fun q hq => hU q (List.mem_cons_of_mem _ hq)) fun θ z q hq => hs θ (fun y hy => z y (a.pre.subset hy)) q (List.mem_cons_of_mem _ hq))
theorem ntP_rl {i : Nat} : ∀ {r : PL} {j : Nat} {S : List Stp}, ∀ p ∈ r, Rl (ntP i j r S) p.1 p.2
  | q :: r, j, S, p, hp => by
    rw [ntP]
    rcases List.mem_cons.mp hp with rfl | z
    · have : ∀ (r : PL) (j : Nat) (S : List Stp), S <+: ntP i j r S := by
        intro r
        induction r with
        | nil => exact fun _ _ => List.prefix_rfl
        | cons p r ih => exact fun j S => (nt_pre ..).trans (ih _ _)
      exact (nt_rl ..).mono (this _ _ _)
    · exact ntP_rl p z
theorem ntL_pre {i : Nat} {s : Tm} : ∀ {r : List Nat} {S : List Stp}, S <+: ntL i s r S
  | [], S => List.prefix_rfl
  | o :: r, S => by
    rw [ntL]
    refine .trans ?_ ntL_pre
    split
    · exact nt_pre ..
    · exact List.prefix_rfl
theorem ntR_pre {i : Nat} {s t : Tm} : ∀ {r : List Nat} {S : List Stp}, S <+: ntR i s t r S
  | [], S => List.prefix_rfl
  | o :: r, S => by
    rw [ntR]
    refine .trans ?_ ntR_pre
    split
    · split
      · exact nt_pre ..
      · exact List.prefix_rfl
    · exact List.prefix_rfl
theorem ntL_grow {i : Nat} {x : Stp} : ∀ {r : List Nat} {S : List Stp}, Good U S → S[i]? = some x → (∀ o ∈ r, ∃ y, S[o]? = some y ∧ y.1 = x.2.1) → Grow U G S (ntL i x.1 r S)
  | [], S, _, _, _ => .refl S
  | o :: r, S, g, hx, ho => by
    obtain ⟨y, hy, e⟩ := ho o (List.mem_cons_self ..)
    rw [ntL, hy]
    simp only
    have a : Grow U G S (nt S x.1 y.2.1 (.ch i o)) := .step (.refl S) (g.inU x (List.mem_of_getElem? hx)).1 (g.inU y (List.mem_of_getElem? hy)).2 (fun θ _ q => (sound_get q hx).trans (e ▸ sound_get q hy)) (by
      simp [refs]
      exact ⟨(List.getElem?_eq_some_iff.mp hx).1, (List.getElem?_eq_some_iff.mp hy).1⟩)
    exact a.trans (ntL_grow (a.good g) (get_pre a.pre hx) fun p hp => by
      obtain ⟨z, h1, h2⟩ := ho p (List.mem_cons_of_mem _ hp)
      exact ⟨z, get_pre a.pre h1, h2⟩)
theorem ntL_rl {i : Nat} {s : Tm} : ∀ {r : List Nat} {S : List Stp}, ∀ o ∈ r, ∀ y, S[o]? = some y → Rl (ntL i s r S) s y.2.1
  | q :: r, S, o, ho, y, hy => by
    rw [ntL]
    rcases List.mem_cons.mp ho with rfl | z
    · rw [hy]
      exact (nt_rl ..).mono ntL_pre
    · refine ntL_rl o z y (get_pre ?_ hy)
      split
      · exact nt_pre ..
      · exact List.prefix_rfl
theorem ntR_grow {i : Nat} {x : Stp} : ∀ {r : List Nat} {S : List Stp}, Good U S → S[i]? = some x → Grow U G S (ntR i x.1 x.2.1 r S)
  | [], S, _, _ => .refl S
  | o :: r, S, g, hx => by
    rw [ntR]
    split
    · rename_i y hy
      split
      · rename_i e
        have a : Grow U G S (nt S y.1 x.2.1 (.ch o i)) := .step (.refl S) (g.inU y (List.mem_of_getElem? hy)).1 (g.inU x (List.mem_of_getElem? hx)).2 (fun θ _ q => (sound_get q hy).trans (e ▸ sound_get q hx)) (by
          simp [refs]
          exact ⟨(List.getElem?_eq_some_iff.mp hy).1, (List.getElem?_eq_some_iff.mp hx).1⟩)
        exact a.trans (ntR_grow (a.good g) (get_pre a.pre hx))
      · exact ntR_grow g hx
    · exact ntR_grow g hx
theorem ntR_rl {i : Nat} {s t : Tm} : ∀ {r : List Nat} {S : List Stp}, ∀ o ∈ r, ∀ y, S[o]? = some y → y.2.1 = s → Rl (ntR i s t r S) y.1 t
  | q :: r, S, o, ho, y, hy, e => by
    rw [ntR]
    rcases List.mem_cons.mp ho with rfl | z
    · rw [hy]
      simp only [e, if_true]
      exact (nt_rl ..).mono ntR_pre
    · refine ntR_rl o z y (get_pre ?_ hy) e
      split
      · split
        · exact nt_pre ..
        · exact List.prefix_rfl
      · exact List.prefix_rfl
theorem lefts_ok {S : List Stp} {t : Tm} {o : Nat} : o ∈ lefts S t ↔ ∃ y, S[o]? = some y ∧ y.1 = t := by
  unfold lefts
  rw [List.mem_filter]
  constructor
  · rintro ⟨h1, h2⟩
    simp at h2
    obtain ⟨a, b, h⟩ := h2
    exact ⟨_, h, rfl⟩
  · rintro ⟨y, h1, h2⟩
    refine ⟨List.mem_range.mpr (List.getElem?_eq_some_iff.mp h1).1, ?_⟩
    rw [h1]
    simp [h2]
variable (hU : ∀ t ∈ U, ∀ a ∈ args t, a ∈ U)
include hU
theorem zip_U {s t : Tm} (hs : s ∈ U) (ht : t ∈ U) : ∀ p ∈ (args s).zip (args t), p.1 ∈ U ∧ p.2 ∈ U := fun p hp => ⟨hU s hs _ (List.of_mem_zip hp).1, hU t ht _ (List.of_mem_zip hp).2⟩
theorem go2_grow {S : List Stp} {i : Nat} {x : Stp} (g : Good U S) (hx : S[i]? = some x) : Grow U G S (go2 S i x.1 x.2.1) := by
  have hm := List.mem_of_getElem? hx
  have a : Grow U G S (go1 S i x.1 x.2.1) := .step (.refl S) (g.inU x hm).2 (g.inU x hm).1 (fun θ _ q => (sound_get q hx).symm) (by
    simp [refs]
    exact (List.getElem?_eq_some_iff.mp hx).1)
  unfold go2
  split
  · rename_i hs
    exact a.trans (ntP_grow (x := x) (get_pre a.pre hx) (zip_U hU (g.inU x hm).1 (g.inU x hm).2) fun θ q => same_args hs (sound_get q (get_pre a.pre hx)))
  · exact a
theorem go3_grow {S : List Stp} {i : Nat} {x : Stp} (g : Good U S) (hx : S[i]? = some x) : Grow U G S (go3 S i x.1 x.2.1) := by
  have a := go2_grow (G := G) hU g hx
  exact a.trans (ntL_grow (x := x) (a.good g) (get_pre a.pre hx) fun o ho => lefts_ok.mp ho)
theorem go4_grow {S : List Stp} {i : Nat} {x : Stp} (g : Good U S) (hx : S[i]? = some x) : Grow U G S (go4 S i x.1 x.2.1) := by
  have a := go3_grow (G := G) hU g hx
  exact a.trans (ntR_grow (x := x) (a.good g) (get_pre a.pre hx))
theorem goOn_grow {S : List Stp} {i : Nat} (g : Good U S) : Grow U G S (goOn S i) := by
  unfold goOn
  split
  · exact .refl S
  · rename_i x hx
    exact go4_grow hU g hx
omit hU
/-- what the steps ahead of n have led to -/
structure Clo (S : List Stp) (n : Nat) : Prop where
  sy : ∀ i x, i < n → S[i]? = some x → Rl S x.2.1 x.1
  pt : ∀ i x, i < n → S[i]? = some x → same x.1 x.2.1 = true → ∀ p ∈ (args x.1).zip (args x.2.1), Rl S p.1 p.2
  ch : ∀ i j x y, i < n → j < n → S[i]? = some x → S[j]? = some y → x.2.1 = y.1 → Rl S x.1 y.2.1
theorem Clo.goOn {S : List Stp} {n : Nat} (c : Clo S n) (hn : n < S.length) : Clo (goOn S n) (n + 1) := by
  have hx : S[n]? = some S[n] := List.getElem?_eq_getElem hn
  generalize S[n] = x at hx
  unfold Tm.goOn
  rw [hx]
  simp only
  have p1 : S <+: go1 S n x.1 x.2.1 := nt_pre ..
  have p12 : go1 S n x.1 x.2.1 <+: go2 S n x.1 x.2.1 := by
    unfold go2
    split
    · have : ∀ (r : PL) (j : Nat) (S : List Stp), S <+: ntP n j r S := by
        intro r
        induction r with
        | nil => exact fun _ _ => List.prefix_rfl
        | cons p r ih => exact fun j S => (nt_pre ..).trans (ih _ _)
      exact this _ _ _
    · exact List.prefix_rfl
  have p23 : go2 S n x.1 x.2.1 <+: go3 S n x.1 x.2.1 := ntL_pre
  have p34 : go3 S n x.1 x.2.1 <+: go4 S n x.1 x.2.1 := ntR_pre
  have p2 := p1.trans p12
  have p3 := p2.trans p23
  have p4 := p3.trans p34
  have old : ∀ i y, i < n → (go4 S n x.1 x.2.1)[i]? = some y → S[i]? = some y := fun i y hi hy => by
    have := get_pre p4 (List.getElem?_eq_getElem (l := S) (i := i) (by omega))
    rw [this] at hy
    rw [← hy]
    exact List.getElem?_eq_getElem (by omega)
  have cur : ∀ y, (go4 S n x.1 x.2.1)[n]? = some y → y = x := fun y hy => by
    rw [get_pre p4 hx] at hy
    exact (Option.some.inj hy).symm
  have A : ∀ (j : Nat) (y : Stp), S[j]? = some y → x.2.1 = y.1 → Rl (go4 S n x.1 x.2.1) x.1 y.2.1 := fun j y hy e => by
    have h2 := get_pre p2 hy
    exact (ntL_rl j (lefts_ok.mpr ⟨y, h2, e.symm⟩) y h2).mono p34
  have B : ∀ (j : Nat) (y : Stp), S[j]? = some y → y.2.1 = x.1 → Rl (go4 S n x.1 x.2.1) y.1 x.2.1 := fun j y hy e => by
    have h3 := get_pre p3 hy
    exact ntR_rl j (List.mem_range.mpr (List.getElem?_eq_some_iff.mp h3).1) y h3 e
  refine ⟨fun i y hi hy => ?_, fun i y hi hy hs => ?_, fun i j y z hi hj hy hz e => ?_⟩
  · rcases Nat.lt_succ_iff_lt_or_eq.mp hi with q | rfl
    · exact (c.sy i y q (old i y q hy)).mono p4
    · cases cur y hy
      exact (nt_rl ..).mono (p12.trans (p23.trans p34))
  · rcases Nat.lt_succ_iff_lt_or_eq.mp hi with q | rfl
    · exact fun p hp => (c.pt i y q (old i y q hy) hs p hp).mono p4
    · cases cur y hy
      intro p hp
      refine Rl.mono (p23.trans p34) ?_
      unfold go2
      rw [if_pos hs]
      exact ntP_rl p hp
  · rcases Nat.lt_succ_iff_lt_or_eq.mp hi with q | rfl
    · rcases Nat.lt_succ_iff_lt_or_eq.mp hj with q' | rfl
      · exact (c.ch i j y z q q' (old i y q hy) (old j z q' hz) e).mono p4
      · cases cur z hz
        exact B i y (old i y q hy) e
    · cases cur y hy
      rcases Nat.lt_succ_iff_lt_or_eq.mp hj with q' | rfl
      · exact A j z (old j z q' hz) e
      · cases cur z hz
        exact A _ _ hx e
theorem nodup_len {α : Type} [BEq α] [LawfulBEq α] : ∀ {l m : List α}, l.Nodup → (∀ x ∈ l, x ∈ m) → l.length ≤ m.length
  | [], _, _, _ => Nat.zero_le _
  | x :: l, m, h, hs => by
    have hx := hs x (List.mem_cons_self ..)
    have := nodup_len (l := l) (m := m.erase x) (List.nodup_cons.mp h).2 fun y hy => by
      refine (List.mem_erase_of_ne fun e => ?_).mpr (hs y (List.mem_cons_of_mem _ hy))
      subst e
      exact (List.nodup_cons.mp h).1 hy
    rw [List.length_erase_of_mem hx] at this
    have := List.length_pos_of_mem hx
    simp only [List.length_cons]
    omega
theorem Good.len {S : List Stp} (g : Good U S) : S.length ≤ U.length * U.length := by
  have := nodup_len (l := prs S) (m := U.flatMap fun s => U.map fun t => (s, t)) g.nd fun p hp => by
    obtain ⟨x, hx, rfl⟩ := List.mem_map.mp hp
    simp
    exact g.inU x hx
  have e : (U.flatMap fun s => U.map fun t => (s, t)).length = U.length * U.length := by
    rw [List.length_flatMap]
    have : ∀ (m : Nat) (l : List Tm), (l.map fun _ => m).sum = l.length * m := by
      intro m l
      induction l with
      | nil => simp
      | cons x l ih => simp [ih, Nat.succ_mul, Nat.add_comm]
    simpa using this U.length U
  rw [e] at this
  simpa [prs] using this
include hU
theorem clo_ok : ∀ {n : Nat} {S : List Stp} {i : Nat}, Good U S → Clo S i → i ≤ S.length → U.length * U.length < i + n → Grow U G S (clo n S i) ∧ Clo (clo n S i) (clo n S i).length
  | 0, S, i, g, _, hi, h => by
    have := g.len
    omega
  | n + 1, S, i, g, c, hi, h => by
    rw [clo]
    split
    · rename_i q
      have a := goOn_grow (G := G) (i := i) hU g
      have z := clo_ok (n := n) (a.good g) (c.goOn q) (by have := a.pre.length_le; omega) (by omega)
      exact ⟨a.trans z.1, z.2⟩
    · have : i = S.length := by omega
      subst this
      exact ⟨.refl S, c⟩
omit hU
end
end Tm
end Gh
end
section
set_option Elab.async false
set_option linter.all false
set_option maxRecDepth 100000
/-! Unifying: what the variables become. -/
namespace Gh
open PySem PySem.Spec PyProof.Rows L2
namespace Tm
section
variable {S : List Stp} (c : Clo S S.length)
include c
theorem mem_get {p : Tm × Tm} (h : p ∈ prs S) : ∃ (i : Nat) (x : Stp), i < S.length ∧ S[i]? = some x ∧ (x.1, x.2.1) = p := by
  obtain ⟨x, hx, e⟩ := List.mem_map.mp h
  obtain ⟨i, hi⟩ := List.mem_iff_getElem?.mp hx
  exact ⟨i, x, (List.getElem?_eq_some_iff.mp hi).1, hi, e⟩
theorem Rl.symm {s t : Tm} (h : Rl S s t) : Rl S t s := by
  rcases h with h | rfl
  · obtain ⟨i, x, h1, h2, e⟩ := mem_get c h
    cases e
    exact c.sy i x h1 h2
  · exact .inr rfl
theorem Rl.trans {s t r : Tm} (h : Rl S s t) (h' : Rl S t r) : Rl S s r := by
  rcases h with h | rfl
  · rcases h' with h' | rfl
    · obtain ⟨i, x, h1, h2, e⟩ := mem_get c h
      obtain ⟨j, y, h3, h4, e'⟩ := mem_get c h'
      simp only [Prod.mk.injEq] at e e'
      obtain ⟨rfl, e1⟩ := e
      obtain ⟨e2, rfl⟩ := e'
      exact c.ch i j x y h1 h3 h2 h4 (e1.trans e2.symm)
    · exact .inl h
  · exact h'
theorem Rl.parts {s t : Tm} (h : Rl S s t) (hs : same s t = true) : ∀ p ∈ (args s).zip (args t), Rl S p.1 p.2 := by
  rcases h with h | rfl
  · obtain ⟨i, x, h1, h2, e⟩ := mem_get c h
    cases e
    exact c.pt i x h1 h2 hs
  · intro p hp
    right
    cases s <;> simp [args] at hp
    · subst hp
      rfl
    · rcases hp with rfl | rfl <;> rfl
end
/-! ### clash and circle -/
def NoClash (S : List Stp) : Prop := ∀ x ∈ S, isV x.1 = false → isV x.2.1 = false → same x.1 x.2.1 = true
theorem clash_bad {θ : Nat → Tm} {s t : Tm} (hs : isV s = false) (ht : isV t = false) (h : same s t = false) : sb θ s ≠ sb θ t := by
  intro e
  cases s <;> cases t <;> simp [isV, same, sb] at * <;> simp_all
theorem same_refl {s : Tm} (h : isV s = false) : same s s = true := by
  cases s <;> simp [isV, same] at *
theorem Rl.same {S : List Stp} (n : NoClash S) {s t : Tm} (h : Rl S s t) (hs : isV s = false) (ht : isV t = false) : same s t = true := by
  rcases h with h | rfl
  · obtain ⟨x, hx, e⟩ := List.mem_map.mp h
    cases e
    exact n x hx hs ht
  · exact same_refl hs
def Ed (S : List Stp) (x y : Nat) : Prop := ∃ t, (v x, t) ∈ prs S ∧ isV t = false ∧ y ∈ occ t
inductive Pth (S : List Stp) : Nat → Nat → Prop
  | one {x y : Nat} : Ed S x y → Pth S x y
  | cons {x y z : Nat} : Pth S x y → Ed S y z → Pth S x z
theorem Pth.trans {S : List Stp} {x y z : Nat} (h : Pth S x y) (h' : Pth S y z) : Pth S x z := by
  induction h' with
  | one e => exact .cons h e
  | cons _ e ih => exact .cons ih e
def Acy (S : List Stp) : Prop := ∀ x, ¬ Pth S x x
theorem size_occ {θ : Nat → Tm} : ∀ {t : Tm} {y : Nat}, y ∈ occ t → size (θ y) ≤ size (sb θ t)
  | v n, y, h => by
    simp [occ] at h
    subst h
    exact Nat.le_refl _
  | k _, y, h => by simp [occ] at h
  | u _ t, y, h => by
    have := size_occ (θ := θ) (t := t) h
    simp only [sb, size]
    omega
  | b _ s t, y, h => by
    simp only [sb, size]
    rcases List.mem_append.mp h with q | q
    · have := size_occ (θ := θ) (t := s) q
      omega
    · have := size_occ (θ := θ) (t := t) q
      omega
theorem size_occ_lt {θ : Nat → Tm} {t : Tm} {y : Nat} (ht : isV t = false) (h : y ∈ occ t) : size (θ y) < size (sb θ t) := by
  cases t with
  | v _ => simp [isV] at ht
  | k _ => simp [occ] at h
  | u _ t =>
    have := size_occ (θ := θ) (t := t) h
    simp only [sb, size]
    omega
  | b _ s t =>
    simp only [sb, size]
    rcases List.mem_append.mp h with q | q
    · have := size_occ (θ := θ) (t := s) q
      omega
    · have := size_occ (θ := θ) (t := t) q
      omega
theorem Ed.lt {S : List Stp} {θ : Nat → Tm} (hs : Sound θ S) {x y : Nat} (h : Ed S x y) : size (θ y) < size (θ x) := by
  obtain ⟨t, h1, h2, h3⟩ := h
  have : θ x = sb θ t := Rl.sound hs (.inl h1)
  rw [this]
  exact size_occ_lt h2 h3
theorem Pth.lt {S : List Stp} {θ : Nat → Tm} (hs : Sound θ S) {x y : Nat} (h : Pth S x y) : size (θ y) < size (θ x) := by
  induction h with
  | one e => exact e.lt hs
  | cons _ e ih => exact Nat.lt_trans (e.lt hs) ih
/-! ### weights -/
def Rea (S : List Stp) (x : Nat) (t : Tm) : Prop := ∃ y, (y = x ∨ Pth S x y) ∧ (v y, t) ∈ prs S ∧ isV t = false
open Classical in
noncomputable def wsum (C : List Tm) (p : Tm → Prop) (f : Tm → Nat) : Nat := ((C.filter fun t => decide (p t)).map f).sum
theorem wsum_cons {C : List Tm} {t : Tm} {p : Tm → Prop} {f : Tm → Nat} (h : p t) : wsum (t :: C) p f = f t + wsum C p f := by
  simp [wsum, h]
theorem wsum_skip {C : List Tm} {t : Tm} {p : Tm → Prop} {f : Tm → Nat} (h : ¬ p t) : wsum (t :: C) p f = wsum C p f := by
  simp [wsum, h]
theorem wsum_le {p q : Tm → Prop} {f : Tm → Nat} : ∀ {C : List Tm}, (∀ t ∈ C, q t → p t) → wsum C q f ≤ wsum C p f
  | [], _ => Nat.le_refl _
  | t :: C, h => by
    have := wsum_le (f := f) (C := C) fun s hs => h s (List.mem_cons_of_mem _ hs)
    by_cases hq : q t
    · rw [wsum_cons hq, wsum_cons (h t (List.mem_cons_self ..) hq)]
      omega
    · rw [wsum_skip hq]
      by_cases hp : p t
      · rw [wsum_cons hp]
        omega
      · rw [wsum_skip hp]
        exact this
theorem wsum_lt {p q : Tm → Prop} {f : Tm → Nat} {t : Tm} (hp : p t) (hq : ¬ q t) : ∀ {C : List Tm}, t ∈ C → (∀ t ∈ C, q t → p t) → wsum C q f + f t ≤ wsum C p f
  | s :: C, hm, h => by
    have hC : ∀ t ∈ C, q t → p t := fun s hs => h s (List.mem_cons_of_mem _ hs)
    rcases List.mem_cons.mp hm with rfl | z
    · rw [wsum_skip hq, wsum_cons hp]
      have := wsum_le (f := f) hC
      omega
    · have := wsum_lt (f := f) hp hq z hC
      by_cases q1 : q s
      · rw [wsum_cons q1, wsum_cons (h s (List.mem_cons_self ..) q1)]
        omega
      · rw [wsum_skip q1]
        by_cases p1 : p s
        · rw [wsum_cons p1]
          omega
        · rw [wsum_skip p1]
          exact this
theorem wsum_all {p : Tm → Prop} {f : Tm → Nat} : ∀ {C : List Tm}, wsum C p f ≤ (C.map f).sum
  | [] => Nat.le_refl _
  | t :: C => by
    have := wsum_all (p := p) (f := f) (C := C)
    by_cases h : p t
    · rw [wsum_cons h]
      simp
      omega
    · rw [wsum_skip h]
      simp
      omega
theorem Rea.step {S : List Stp} {x z : Nat} {s t : Tm} (hx : (v x, t) ∈ prs S) (ht : isV t = false) (hz : z ∈ occ t) (h : Rea S z s) : Rea S x s := by
  obtain ⟨y, h1, h2, h3⟩ := h
  have e : Ed S x z := ⟨t, hx, ht, hz⟩
  refine ⟨y, .inr ?_, h2, h3⟩
  rcases h1 with rfl | h1
  · exact .one e
  · exact (Pth.one e).trans h1
theorem Rea.not {S : List Stp} (c : Clo S S.length) (a : Acy S) {x z : Nat} {t : Tm} (hx : (v x, t) ∈ prs S) (ht : isV t = false) (hz : z ∈ occ t) : ¬ Rea S z t := by
  rintro ⟨y, h1, h2, h3⟩
  have e : Ed S y z := ⟨t, h2, ht, hz⟩
  refine a z ?_
  rcases h1 with rfl | h1
  · exact .one e
  · exact h1.cons e
theorem w_step {S : List Stp} (c : Clo S S.length) (a : Acy S) {C : List Tm} {f : Tm → Nat} {x z : Nat} {t : Tm} (hx : (v x, t) ∈ prs S) (ht : isV t = false) (hC : t ∈ C) (hz : z ∈ occ t) : wsum C (Rea S z) f + f t ≤ wsum C (Rea S x) f :=
  wsum_lt ⟨x, .inl rfl, hx, ht⟩ (Rea.not c a hx ht hz) hC fun s _ h => h.step hx ht hz
noncomputable def rank (S : List Stp) (x : Nat) : Nat := wsum ((prs S).map (·.2)) (Rea S x) fun _ => 1
theorem rank_lt {S : List Stp} (c : Clo S S.length) (a : Acy S) {x z : Nat} {t : Tm} (hx : (v x, t) ∈ prs S) (ht : isV t = false) (hz : z ∈ occ t) : rank S z < rank S x :=
  w_step (f := fun _ => 1) c a hx ht (List.mem_map.mpr ⟨_, hx, rfl⟩) hz
/-! ### the values -/
def told (S : List Stp) (x : Nat) : List Tm := (S.filter fun s => decide (s.1 = v x)).map (·.2.1)
def whole (S : List Stp) (x : Nat) : List Tm := (told S x).filter fun t => !isV t
def vnum : Tm → Nat
  | v n => n
  | _ => 0
def vmin (S : List Stp) (x : Nat) : Nat := ((told S x).map vnum).foldl (fun a b => if b < a then b else a) x
theorem told_mem {S : List Stp} {x : Nat} {t : Tm} : t ∈ told S x ↔ (v x, t) ∈ prs S := by
  unfold told prs
  simp only [List.mem_map, List.mem_filter, decide_eq_true_eq]
  constructor
  · rintro ⟨y, ⟨h1, h2⟩, rfl⟩
    exact ⟨y, h1, by rw [← h2]⟩
  · rintro ⟨y, h1, h2⟩
    simp only [Prod.mk.injEq] at h2
    exact ⟨y, ⟨h1, h2.1⟩, h2.2⟩
theorem whole_mem {S : List Stp} {x : Nat} {t : Tm} : t ∈ whole S x ↔ (v x, t) ∈ prs S ∧ isV t = false := by
  unfold whole
  rw [List.mem_filter, told_mem]
  simp
def vl (S : List Stp) : Nat → Nat → Tm
  | 0, x => v x
  | n + 1, x => match whole S x with
    | t :: _ => sb (vl S n) t
    | [] => v (vmin S x)
theorem vl_st {S : List Stp} (c : Clo S S.length) (a : Acy S) : ∀ (n m x : Nat), rank S x < n → rank S x < m → vl S n x = vl S m x
  | 0, _, _, h, _ => by omega
  | _, 0, _, _, h => by omega
  | n + 1, m + 1, x, h, h' => by
    rw [vl, vl]
    split
    · rename_i t r e
      have q := whole_mem.mp (e ▸ List.mem_cons_self .. : t ∈ whole S x)
      refine sb_congr fun y hy => ?_
      have := rank_lt c a q.1 q.2 hy
      exact vl_st c a n m y (by omega) (by omega)
    · rfl
noncomputable def va (S : List Stp) (x : Nat) : Tm := vl S (rank S x + 1) x
theorem va_eq {S : List Stp} (c : Clo S S.length) (a : Acy S) (x : Nat) : va S x = match whole S x with
    | t :: _ => sb (va S) t
    | [] => v (vmin S x) := by
  rw [va, vl]
  split
  · rename_i t r e
    have q := whole_mem.mp (e ▸ List.mem_cons_self .. : t ∈ whole S x)
    refine sb_congr fun y hy => ?_
    have := rank_lt c a q.1 q.2 hy
    exact vl_st c a _ _ y (by omega) (by omega)
  · rfl
theorem va_whole {S : List Stp} (c : Clo S S.length) (a : Acy S) {x : Nat} {t : Tm} {r : List Tm} (h : whole S x = t :: r) : (v x, t) ∈ prs S ∧ isV t = false ∧ va S x = sb (va S) t := by
  have q := whole_mem.mp (h ▸ List.mem_cons_self .. : t ∈ whole S x)
  refine ⟨q.1, q.2, ?_⟩
  rw [va_eq c a, h]
theorem va_none {S : List Stp} (c : Clo S S.length) (a : Acy S) {x : Nat} (h : whole S x = []) : va S x = v (vmin S x) := by
  rw [va_eq c a, h]
theorem foldmin_le : ∀ (l : List Nat) (a : Nat), l.foldl (fun a b => if b < a then b else a) a ≤ a ∧ ∀ x ∈ l, l.foldl (fun a b => if b < a then b else a) a ≤ x
  | [], a => ⟨Nat.le_refl _, by simp⟩
  | y :: l, a => by
    rw [List.foldl_cons]
    have := foldmin_le l (if y < a then y else a)
    have h1 : (if y < a then y else a) ≤ a := by split <;> omega
    have h2 : (if y < a then y else a) ≤ y := by split <;> omega
    refine ⟨Nat.le_trans this.1 h1, fun x hx => ?_⟩
    rcases List.mem_cons.mp hx with rfl | hx
    · exact Nat.le_trans this.1 h2
    · exact this.2 x hx
theorem foldmin_mem : ∀ (l : List Nat) (a : Nat), l.foldl (fun a b => if b < a then b else a) a = a ∨ l.foldl (fun a b => if b < a then b else a) a ∈ l
  | [], a => .inl rfl
  | y :: l, a => by
    rw [List.foldl_cons]
    rcases foldmin_mem l (if y < a then y else a) with h | h
    · rw [h]
      split
      · exact .inr (List.mem_cons_self ..)
      · exact .inl rfl
    · exact .inr (List.mem_cons_of_mem _ h)
theorem vmin_rl {S : List Stp} {x : Nat} (h : whole S x = []) : Rl S (v x) (v (vmin S x)) := by
  rcases foldmin_mem ((told S x).map vnum) x with q | q
  · right
    rw [vmin, q]
  · obtain ⟨t, ht, e⟩ := List.mem_map.mp q
    cases t with
    | v n =>
      left
      rw [vmin, ← e]
      exact told_mem.mp ht
    | _ =>
      have := whole_mem.mpr ⟨told_mem.mp ht, rfl⟩
      rw [h] at this
      cases this
theorem vmin_le {S : List Stp} {x y : Nat} (h : Rl S (v x) (v y)) : vmin S x ≤ y := by
  rcases h with h | h
  · exact (foldmin_le _ x).2 y (List.mem_map.mpr ⟨v y, told_mem.mpr h, rfl⟩)
  · cases h
    exact (foldmin_le _ x).1
section
variable {S : List Stp} (c : Clo S S.length) (a : Acy S) (n : NoClash S)
include c a n
theorem va_nn {N : Nat} (IH : ∀ s t, Rl S s t → size (sb (va S) s) < N → sb (va S) s = sb (va S) t) {s t : Tm} (h : Rl S s t) (hs : isV s = false) (ht : isV t = false) (hN : size (sb (va S) s) ≤ N) : sb (va S) s = sb (va S) t := by
  have hsame := h.same n hs ht
  have hp := h.parts c hsame
  cases s with
  | v x => simp [isV] at hs
  | k h1 =>
    cases t with
    | k h2 =>
      simp [Tm.same] at hsame
      rw [hsame]
    | _ => simp [Tm.same] at hsame
  | u h1 s1 =>
    cases t with
    | u h2 t1 =>
      simp [Tm.same] at hsame
      have r1 := hp (s1, t1) (by simp [args])
      simp only [sb, size] at hN ⊢
      rw [hsame, IH s1 t1 r1 (by omega)]
    | _ => simp [Tm.same] at hsame
  | b h1 s1 s2 =>
    cases t with
    | b h2 t1 t2 =>
      simp [Tm.same] at hsame
      have r1 := hp (s1, t1) (by simp [args])
      have r2 := hp (s2, t2) (by simp [args])
      simp only [sb, size] at hN ⊢
      rw [hsame, IH s1 t1 r1 (by omega), IH s2 t2 r2 (by omega)]
    | _ => simp [Tm.same] at hsame
theorem va_eqs : ∀ (N : Nat) (s t : Tm), Rl S s t → size (sb (va S) s) < N → sb (va S) s = sb (va S) t
  | 0, _, _, _, h => by omega
  | N + 1, s, t, h, hN => by
    have nn : ∀ {s t : Tm}, Rl S s t → isV s = false → isV t = false → size (sb (va S) s) ≤ N → sb (va S) s = sb (va S) t := fun h1 h2 h3 h4 => va_nn c a n (va_eqs N) h1 h2 h3 h4
    by_cases hs : isV s = false
    · by_cases ht : isV t = false
      · exact nn h hs ht (by omega)
      · cases t with
        | v y =>
          rcases h.symm c with q | q
          · cases hw : whole S y with
            | nil =>
              have := whole_mem.mpr ⟨q, hs⟩
              rw [hw] at this
              cases this
            | cons t1 r =>
              obtain ⟨e1, e2, e3⟩ := va_whole c a hw
              show _ = va S y
              rw [e3]
              exact nn (h.trans c (.inl e1)) hs e2 (by omega)
          · rw [← q]
        | _ => simp [isV] at ht
    · cases s with
      | v x =>
        have hN' : size (va S x) ≤ N := by
          have : size (sb (va S) (v x)) < N + 1 := hN
          simp only [sb] at this
          omega
        show va S x = _
        cases hw : whole S x with
        | nil =>
          cases t with
          | v y =>
            show va S x = va S y
            cases hw2 : whole S y with
            | nil =>
              rw [va_none c a hw, va_none c a hw2]
              congr 1
              refine Nat.le_antisymm (vmin_le (h.trans c (vmin_rl hw2))) (vmin_le ((h.symm c).trans c (vmin_rl hw)))
            | cons t1 r =>
              obtain ⟨e1, e2, _⟩ := va_whole c a hw2
              rcases h.trans c (.inl e1) with q | q
              · have := whole_mem.mpr ⟨q, e2⟩
                rw [hw] at this
                cases this
              · rw [← q] at e2
                simp [isV] at e2
          | _ =>
            rcases h with q | q
            · have := whole_mem.mpr ⟨q, rfl⟩
              rw [hw] at this
              cases this
            · cases q
        | cons t0 r =>
          obtain ⟨e1, e2, e3⟩ := va_whole c a hw
          rw [e3]
          rw [e3] at hN'
          have h0 : Rl S t0 t := (Rl.symm c (.inl e1)).trans c h
          by_cases ht : isV t = false
          · exact nn h0 e2 ht hN'
          · cases t with
            | v y =>
              show _ = va S y
              rcases h0.symm c with q | q
              · cases hw2 : whole S y with
                | nil =>
                  have := whole_mem.mpr ⟨q, e2⟩
                  rw [hw2] at this
                  cases this
                | cons t1 r2 =>
                  obtain ⟨f1, f2, f3⟩ := va_whole c a hw2
                  rw [f3]
                  exact nn (h0.trans c (.inl f1)) e2 f2 hN'
              · rw [← q] at e2
                simp [isV] at e2
            | _ => simp [isV] at ht
      | _ => simp [isV] at hs
theorem va_sound : Sound (va S) S := fun x hx => va_eqs c a n _ x.1 x.2.1 (.inl (List.mem_map.mpr ⟨x, hx, rfl⟩)) (Nat.lt_succ_self _)
omit n
theorem va_mgu {θ : Nat → Tm} (h : Sound θ S) : ∀ (N x : Nat), size (va S x) < N → sb θ (va S x) = θ x
  | 0, _, h => by omega
  | N + 1, x, hN => by
    cases hw : whole S x with
    | nil =>
      rw [va_none c a hw]
      exact (Rl.sound h (vmin_rl hw)).symm
    | cons t r =>
      obtain ⟨e1, e2, e3⟩ := va_whole c a hw
      rw [e3, sb_sb]
      rw [e3] at hN
      have : θ x = sb θ t := Rl.sound h (.inl e1)
      rw [this]
      refine sb_congr fun y hy => ?_
      have := size_occ_lt (θ := va S) e2 hy
      exact va_mgu h N y (by omega)
theorem va_gen {θ : Nat → Tm} (h : Sound θ S) (x : Nat) : sb θ (va S x) = θ x := va_mgu c a h _ x (Nat.lt_succ_self _)
end
/-! ### depths of values -/
def pd : Tm → Nat
  | v _ => 0
  | k _ => 0
  | u _ t => pd t + 1
  | b _ s t => max (pd s) (pd t) + 1
theorem dep_pd {σ : Nat → Tm} {m : Nat} (hm : 1 ≤ m) : ∀ {t : Tm}, (∀ y ∈ occ t, (σ y).dep ≤ m) → (sb σ t).dep ≤ pd t + m
  | v x, h => by
    have := h x (by simp [occ])
    simp only [sb, pd]
    omega
  | k _, h => by
    simp only [sb, dep, pd]
    omega
  | u _ t, h => by
    have := dep_pd hm (t := t) h
    simp only [sb, dep, pd]
    omega
  | b _ s t, h => by
    have := dep_pd hm (t := s) fun y hy => h y (by simp [occ, hy])
    have := dep_pd hm (t := t) fun y hy => h y (by simp [occ, hy])
    simp only [sb, dep, pd]
    omega
theorem va_dep {S : List Stp} (c : Clo S S.length) (a : Acy S) {C : List Tm} (hC : ∀ x t, (v x, t) ∈ prs S → isV t = false → t ∈ C) : ∀ (N x : Nat), size (va S x) < N → (va S x).dep ≤ wsum C (Rea S x) pd + 1
  | 0, _, h => by omega
  | N + 1, x, hN => by
    cases hw : whole S x with
    | nil =>
      rw [va_none c a hw]
      simp [dep]
    | cons t r =>
      obtain ⟨e1, e2, e3⟩ := va_whole c a hw
      rw [e3]
      rw [e3] at hN
      have z : ∀ y ∈ occ t, (va S y).dep ≤ wsum C (Rea S x) pd - pd t + 1 := fun y hy => by
        have h1 := size_occ_lt (θ := va S) e2 hy
        have h2 := va_dep c a hC N y (by omega)
        have h3 := w_step (f := pd) c a e1 e2 (hC x t e1 e2) hy
        omega
      have h4 := dep_pd (σ := va S) (m := wsum C (Rea S x) pd - pd t + 1) (by omega) z
      have h5 : pd t ≤ wsum C (Rea S x) pd := by
        have := wsum_lt (C := C) (p := Rea S x) (q := fun _ => False) (f := pd) (t := t) ⟨x, .inl rfl, e1, e2⟩ (by simp) (hC x t e1 e2) (by simp)
        omega
      omega
theorem va_dep' {S : List Stp} (c : Clo S S.length) (a : Acy S) {C : List Tm} (hC : ∀ x t, (v x, t) ∈ prs S → isV t = false → t ∈ C) (x : Nat) : (va S x).dep ≤ (C.map pd).sum + 1 :=
  Nat.le_trans (va_dep c a hC _ x (Nat.lt_succ_self _)) (Nat.succ_le_succ wsum_all)
end Tm
end Gh
end
section
set_option Elab.async false
set_option linter.all false
set_option maxRecDepth 100000
/-! Runs, step by step: what simp is to know of them. -/
namespace Gh
open PySem PySem.Spec PyProof.Rows L2
section
variable {ρ ρ1 : Env} {ih ih1 : IH} {i n P N : Nat} {d : D} {m ma mb : Env → M D} {ms : Env → M (List D)} {a b : MS} {c c' : Env → M Bool} {g : MG} {gs : MGs} {ds : List D}
@[simp] theorem xVar_ap : xVar i ρ ih = match ρ[i]? with
    | some (some d) => some (d, ih)
    | _ => none := rfl
@[simp] theorem xC_ap : xC d ρ ih = some (d, ih) := rfl
@[simp] theorem xNil_ap : xNil ρ ih = some ([], ih) := rfl
@[simp] theorem xCons_ap : xCons m ms ρ ih = (m ρ ih).bind fun p => (ms ρ p.2).bind fun q => some (p.1 :: q.1, q.2) := rfl
@[simp] theorem xUn_ap {f : D → M D} : xUn f m ρ ih = (m ρ ih).bind fun p => f p.1 p.2 := rfl
@[simp] theorem xBin_ap {f : D → D → M D} : xBin f ma mb ρ ih = (ma ρ ih).bind fun p => (mb ρ p.2).bind fun q => f p.1 q.1 q.2 := rfl
@[simp] theorem xArgs_ap {f : List D → M D} : xArgs f ms ρ ih = (ms ρ ih).bind fun p => f p.1 p.2 := rfl
@[simp] theorem xIf_ap : xIf c ma mb ρ ih = (c ρ ih).bind fun p => if p.1 = true then ma ρ p.2 else mb ρ p.2 := rfl
@[simp] theorem tVal_ap : tVal m ρ ih = (m ρ ih).bind fun p => (asB p.1).map fun b => (b, p.2) := rfl
@[simp] theorem tAnd2_ap : tAnd2 c c' ρ ih = (c ρ ih).bind fun p => if p.1 = true then c' ρ p.2 else some (false, p.2) := rfl
@[simp] theorem tOr2_ap : tOr2 c c' ρ ih = (c ρ ih).bind fun p => if p.1 = true then some (true, p.2) else c' ρ p.2 := rfl
@[simp] theorem tNot2_ap : tNot2 c ρ ih = (c ρ ih).bind fun p => some (!p.1, p.2) := rfl
@[simp] theorem xAndV_ap : xAndV ma mb ρ ih = (ma ρ ih).bind fun p => (asB p.1).bind fun c => if c = true then mb ρ p.2 else some (.bl false, p.2) := rfl
@[simp] theorem xNotV_ap : xNotV ma ρ ih = (ma ρ ih).bind fun p => (asB p.1).bind fun c => some (.bl (!c), p.2) := rfl
@[simp] theorem tTru_ap : tTru m ρ ih = (m ρ ih).bind fun p => (truD p.1 p.2).map fun b => (b, p.2) := rfl
@[simp] theorem yNext_ap : yNext ρ ih = some (.nx, ρ, ih) := rfl
@[simp] theorem ySeq_ap : ySeq a b ρ ih = (a ρ ih).bind fun r => match r with
    | (.nx, ρ1, ih1) => b ρ1 ih1
    | r => some r := rfl
@[simp] theorem yExpr_ap : yExpr m ρ ih = (m ρ ih).bind fun p => some (.nx, ρ, p.2) := rfl
@[simp] theorem yRet_ap : yRet m ρ ih = (m ρ ih).bind fun p => some (.rt p.1, ρ, p.2) := rfl
@[simp] theorem yIf_ap : yIf c a b ρ ih = (c ρ ih).bind fun p => if p.1 = true then a ρ p.2 else b ρ p.2 := rfl
@[simp] theorem ySet_ap : ySet i m ρ ih = (m ρ ih).bind fun p => some (.nx, ρ.set i (some p.1), p.2) := rfl
@[simp] theorem yAsg_ap : yAsg m g ρ ih = (m ρ ih).bind fun p => (g p.1 ρ p.2).bind fun q => some (.nx, q.1, q.2) := rfl
@[simp] theorem gNm_ap : gNm i d ρ ih = some (ρ.set i (some d), ih) := rfl
@[simp] theorem gsNil_ap : gsNil [] ρ ih = some (ρ, ih) := rfl
@[simp] theorem gsCons_ap : gsCons g gs (d :: ds) ρ ih = (g d ρ ih).bind fun p => gs ds p.1 p.2 := rfl
@[simp] theorem gTp_ap : gTp n gs (.tup ds) ρ ih = if ds.length = n then gs ds ρ ih else none := rfl
@[simp] theorem gSb_ap {ws : D → D → D → IH → Option IH} : gSb ma mb ws d ρ ih = (ma ρ ih).bind fun p => (mb ρ p.2).bind fun q => (ws p.1 q.1 d q.2).bind fun ih' => some (ρ, ih') := rfl
@[simp] theorem yFor_ap {mi : Env → M Src} : yFor mi g b ρ ih = (mi ρ ih).bind fun p => forL p.1.gd g b p.1.items ρ p.2 := rfl
@[simp] theorem xSrc_ap {f : D → IH → Option Src} : xSrc f m ρ ih = (m ρ ih).bind fun p => (f p.1 p.2).map fun s => (s, p.2) := rfl
@[simp] theorem xSrcN_ap {f : List D → IH → Option Src} : xSrcN f ms ρ ih = (ms ρ ih).bind fun p => (f p.1 p.2).map fun s => (s, p.2) := rfl
@[simp] theorem xSl_ap {lo hi : Env → IH → Option (Option Int × IH)} : xSl m lo hi ρ ih = (m ρ ih).bind fun p => (lo ρ p.2).bind fun l => (hi ρ l.2).bind fun h => match p.1 with
    | .tup ds => some (.tup (cutD ds l.1 h.1), h.2)
    | _ => none := rfl
@[simp] theorem xPart_ap : xPart m ρ ih = (m ρ ih).bind fun p => (asInt p.1).map fun i => (some i, p.2) := rfl
@[simp] theorem xNoPart_ap : xNoPart ρ ih = some (none, ih) := rfl
@[simp] theorem xRev_ap : xRev m ρ ih = (m ρ ih).bind fun p => match p.1 with
    | .tup ds => some (.tup ds.reverse, p.2)
    | _ => none := rfl
@[simp] theorem xMethC_ap {ck : D → IH → Bool} {f : D → List D → M D} : xMethC ck f m ms ρ ih = (m ρ ih).bind fun p => if ck p.1 p.2 = true then (ms ρ p.2).bind fun q => f p.1 q.1 q.2 else none := rfl
@[simp] theorem xDnewH_ap : xDnewH ρ ih = some (.obj ih.length, ih ++ [.dct []]) := rfl
@[simp] theorem tTrue_ap : tTrue ρ ih = some (true, ih) := rfl
@[simp] theorem midC_ap {α : Type} {mi : Env → M Src} {vs : List Nat} {k : Env → IH → α → Option (α × IH)} {x : α} : midC mi vs g c k ρ ih x = (mi ρ ih).bind fun s => loopC s.1.gd g c k (wipeD ρ vs) s.1.items s.2 x := rfl
@[simp] theorem emL_ap {l : List D} : emL m ρ ih l = (m ρ ih).bind fun y => if l.length < sizeLine then some (l ++ [y.1], y.2) else none := rfl
@[simp] theorem emD_ap {l : List (D × D)} : emD ma mb ρ ih l = (ma ρ ih).bind fun x => (mb ρ x.2).bind fun y => (hkey x.1).bind fun k => if l.length < sizeLine then some (dput l x.1 k y.1, y.2) else none := rfl
@[simp] theorem xCompL_ap {mi : Env → M Src} {vs : List Nat} {k : Env → IH → List D → Option (List D × IH)} : xCompL mi vs g c k ρ ih = (midC mi vs g c k ρ ih []).bind fun r => some (.lst r.1, r.2) := rfl
@[simp] theorem xCompD_ap {mi : Env → M Src} {vs : List Nat} {k : Env → IH → List (D × D) → Option (List (D × D) × IH)} : xCompD mi vs g c k ρ ih = (midC mi vs g c k ρ ih []).bind fun r => some (.dct (r.1.map (·.1)) (r.1.map (·.2)), r.2) := rfl
@[simp] theorem loopC_nil {α : Type} {gd : IH → Bool} {k : Env → IH → α → Option (α × IH)} {x : α} : loopC gd g c k ρ [] ih x = if gd ih = true then some (x, ih) else none := rfl
@[simp] theorem loopC_cons {α : Type} {gd : IH → Bool} {k : Env → IH → α → Option (α × IH)} {x : α} : loopC gd g c k ρ (d :: ds) ih x = if gd ih = true then (g d ρ ih).bind fun q => (c q.1 q.2).bind fun b =>
      if b.1 = true then (k q.1 b.2 x).bind fun r => loopC gd g c k ρ ds r.2 r.1 else loopC gd g c k ρ ds b.2 x
    else none := rfl
@[simp] theorem forL_nil {gd : IH → Bool} : forL gd g b [] ρ ih = if gd ih = true then some (.nx, ρ, ih) else none := rfl
theorem forL_cons {gd : IH → Bool} : forL gd g b (d :: ds) ρ ih = if gd ih = true then (g d ρ ih).bind fun q => (b q.1 q.2).bind fun r => match r with
    | (.nx, ρ1, ih1) => forL gd g b ds ρ1 ih1
    | (.ct, ρ1, ih1) => forL gd g b ds ρ1 ih1
    | (.bk, ρ1, ih1) => some (.nx, ρ1, ih1)
    | (.rt d, ρ1, ih1) => some (.rt d, ρ1, ih1)
    else none := rfl
@[simp] theorem wipe_nil : wipeD ρ [] = ρ := rfl
@[simp] theorem wipe_cons {v : Nat} {vs : List Nat} : wipeD ρ (v :: vs) = (wipeD ρ vs).set v none := rfl
@[simp] theorem xCallM_ap {c nm : Str} {f : List D → M D} : xCallM c nm f m ms ρ ih = (m ρ ih).bind fun p => match p.1 with
    | .obj n => match p.2[n]? with
      | some (.ins c' fs) => if c' = c ∧ fs.lookup nm = none then (ms ρ p.2).bind fun q => f (.obj n :: q.1) q.2 else none
      | _ => none
    | _ => none := rfl
@[simp] theorem yFld_ap {c f : Str} : yFld c f ma mb ρ ih = (mb ρ ih).bind fun p => (ma ρ p.2).bind fun q => (fSetF c f q.1 p.1 q.2).bind fun ih' => some (.nx, ρ, ih') := rfl
theorem bodyM_ap : bodyM P N b ds ih = if ds.length = P then (b (ds.map some ++ List.replicate (N - P) none) ih).bind fun r => match r with
    | (.rt d, _, ih') => some (d, ih')
    | (.nx, _, ih') => some (.non, ih')
    | _ => none
    else none := rfl
@[simp] theorem cut1 : cutD (d :: ds) (some 1) none = ds := by
  unfold cutD
  have h1 : HT.sIx (d :: ds).length 0 (some 1) = 1 := by
    simp [HT.sIx]
  have h2 : HT.sIx (d :: ds).length (d :: ds).length none = (d :: ds).length := by
    simp [HT.sIx]
  rw [h1, h2]
  simp
end
end Gh
end
section
set_option Elab.async false
set_option linter.all false
set_option maxRecDepth 100000
/-! Runs: more for simp; heaps, dicts. -/
namespace Gh
open PySem PySem.Spec PyProof.Rows L2
@[simp] theorem atD_nat {ds : List D} {n : Nat} : atD ds (n : Int) = ds[n]? := by
  unfold atD atI ixN
  by_cases h : n < ds.length
  · have : (n : Int) < ds.length := by omega
    simp [this]
  · have : ¬ (n : Int) < ds.length := by omega
    simp [this]
    omega
@[simp] theorem atD_0 {ds : List D} : atD ds 0 = ds[0]? := atD_nat (n := 0)
@[simp] theorem atD_1 {ds : List D} : atD ds 1 = ds[1]? := atD_nat (n := 1)
@[simp] theorem atD_2 {ds : List D} : atD ds 2 = ds[2]? := atD_nat (n := 2)
@[simp] theorem fIx_tup {ds : List D} {i : Int} {ih : IH} : fIx (.tup ds) (.int i) ih = (atD ds i).map fun d => (d, ih) := rfl
@[simp] theorem fIx_lst {ds : List D} {i : Int} {ih : IH} : fIx (.lst ds) (.int i) ih = (atD ds i).map fun d => (d, ih) := rfl
@[simp] theorem asInt_int {i : Int} : asInt (.int i) = some i := rfl
@[simp] theorem asB_bl {b : Bool} : asB (.bl b) = some b := rfl
@[simp] theorem fIsInt_int {i : Int} {ih : IH} : fIsInt (.int i) ih = some (.bl true, ih) := rfl
@[simp] theorem fIsInt_tup {ds : List D} {ih : IH} : fIsInt (.tup ds) ih = some (.bl false, ih) := rfl
@[simp] theorem fAdd_int {i j : Int} {ih : IH} : fAdd (.int i) (.int j) ih = some (.int (i + j), ih) := rfl
@[simp] theorem fAdd_tup {x y : List D} {ih : IH} : fAdd (.tup x) (.tup y) ih = if x.length + y.length ≤ sizeLine then some (.tup (x ++ y), ih) else none := rfl
@[simp] theorem fAdd_lst {x y : List D} {ih : IH} : fAdd (.lst x) (.lst y) ih = if x.length + y.length ≤ sizeLine then some (.lst (x ++ y), ih) else none := rfl
@[simp] theorem srcAny_tup {ds : List D} {ih : IH} : srcAny (.tup ds) ih = some ⟨ds, fun _ => true⟩ := rfl
@[simp] theorem srcAny_lst {ds : List D} {ih : IH} : srcAny (.lst ds) ih = some ⟨ds, fun _ => true⟩ := rfl
@[simp] theorem srcAny_dct {ks vs : List D} {ih : IH} : srcAny (.dct ks vs) ih = some ⟨ks, fun _ => true⟩ := rfl
@[simp] theorem fSum_lst {ds : List D} {ih : IH} : fSum [.lst ds] ih = (asInts ds).map fun is => (.int is.sum, ih) := by
  simp only [fSum, f1, listOf, Option.bind_some, Option.map_map]
  rfl
@[simp] theorem asInts_nil : asInts [] = some [] := rfl
@[simp] theorem asInts_cons {i : Int} {ds : List D} : asInts (.int i :: ds) = (asInts ds).map fun is => i :: is := rfl
@[simp] theorem fTuple_lst {ds : List D} {ih : IH} : fTuple [.lst ds] ih = some (.tup ds, ih) := rfl
@[simp] theorem fTup_ap {ds : List D} {ih : IH} : fTup ds ih = if ds.length ≤ sizeLine then some (.tup ds, ih) else none := rfl
@[simp] theorem fLst_ap {ds : List D} {ih : IH} : fLst ds ih = if ds.length ≤ sizeLine then some (.lst ds, ih) else none := rfl
@[simp] theorem fLstH_ap {ds : List D} {ih : IH} : fLstH ds ih = if ds.length ≤ sizeLine then some (.obj ih.length, ih ++ [.lst ds]) else none := rfl
theorem sz : sizeLine = 16777216 := by decide +kernel

/-! the heap behind what stood there -/
@[simp] theorem get_app {α : Type} {l r : List α} {i : Nat} : (l ++ r)[l.length + i]? = r[i]? := by
  rw [List.getElem?_append_right (by omega)]
  congr 1
  omega
@[simp] theorem get_app0 {α : Type} {l r : List α} : (l ++ r)[l.length]? = r[0]? := get_app (i := 0)
@[simp] theorem set_app {α : Type} {l r : List α} {i : Nat} {x : α} : (l ++ r).set (l.length + i) x = l ++ r.set i x := by
  rw [List.set_append_right _ _ (by omega)]
  congr 2
  omega
@[simp] theorem set_app0 {α : Type} {l r : List α} {x : α} : (l ++ r).set l.length x = l ++ r.set 0 x := set_app (i := 0)
@[simp] theorem hkeyI {i : Int} : hkey (.int i) = some (.num i) := by
  simp [hkey, keyOf, NestedKey.depth]
@[simp] theorem hkeyS {x : Str} : hkey (.str x) = some (.text x) := by
  simp [hkey, keyOf, NestedKey.depth]
@[simp] theorem getKvs_obj {n : Nat} {ih : IH} : getKvs (.obj n) ih = match ih[n]? with
    | some (.dct kvs) => some kvs
    | some (.lck kvs) => some kvs
    | _ => none := rfl
@[simp] theorem getKvs_dct {ks vs : List D} {ih : IH} : getKvs (.dct ks vs) ih = some (ks.zip vs) := rfl
@[simp] theorem fGet_ap {o a d : D} {ih : IH} : fGet o [a, d] ih = (getKvs o ih).bind fun kvs => (hkey a).map fun k => ((dlook kvs k).getD d, ih) := rfl
@[simp] theorem wSetD_ap {n : Nat} {i v : D} {ih : IH} : wSetD (.obj n) i v ih = match ih[n]? with
    | some (.dct kvs) => (hkey i).bind fun k => if kvs.length < sizeLine then some (ih.set n (.dct (dput kvs i k v))) else none
    | _ => none := rfl
@[simp] theorem fSetd_ap {n : Nat} {a d : D} {ih : IH} : fSetd (.obj n) [a, d] ih = match ih[n]? with
    | some (.dct kvs) => (hkey a).bind fun k => match dlook kvs k with
      | some d' => some (d', ih)
      | none => if kvs.length < sizeLine then some (d, ih.set n (.dct (dput kvs a k d))) else none
    | _ => none := rfl
@[simp] theorem fAppend_ap {n : Nat} {d : D} {ih : IH} : fAppend (.obj n) [d] ih = match ih[n]? with
    | some (.lst xs) => if xs.length < sizeLine then some (.non, ih.set n (.lst (xs ++ [d]))) else none
    | _ => none := rfl
@[simp] theorem fPop_ap {n : Nat} {ih : IH} : fPop (.obj n) [] ih = match ih[n]? with
    | some (.lst xs) => (xs[xs.length - 1]?).map fun d => (d, ih.set n (.lst xs.dropLast))
    | _ => none := rfl
@[simp] theorem fExtend_tup {n : Nat} {ds : List D} {ih : IH} : fExtend (.obj n) [.tup ds] ih = match ih[n]? with
    | some (.lst xs) => if xs.length + ds.length ≤ sizeLine then some (.non, ih.set n (.lst (xs ++ ds))) else none
    | _ => none := by
  unfold fExtend
  simp [itemsOf]
  all_goals rfl
@[simp] theorem fExtend_lst {n : Nat} {ds : List D} {ih : IH} : fExtend (.obj n) [.lst ds] ih = match ih[n]? with
    | some (.lst xs) => if xs.length + ds.length ≤ sizeLine then some (.non, ih.set n (.lst (xs ++ ds))) else none
    | _ => none := by
  unfold fExtend
  simp [itemsOf]
  all_goals rfl
@[simp] theorem isLstH_ap {n : Nat} {ih : IH} : isLstH (.obj n) ih = match ih[n]? with
    | some (.lst _) => true
    | _ => false := rfl
@[simp] theorem isDctA_ap {d : D} {ih : IH} : isDctA d ih = (getKvs d ih).isSome := rfl
@[simp] theorem truD_obj {n : Nat} {ih : IH} : truD (.obj n) ih = match ih[n]? with
    | some (.lst ds) => some (!ds.isEmpty)
    | _ => none := rfl
@[simp] theorem truD_lst {ds : List D} {ih : IH} : truD (.lst ds) ih = some (!ds.isEmpty) := rfl
@[simp] theorem truD_tup {ds : List D} {ih : IH} : truD (.tup ds) ih = some (!ds.isEmpty) := rfl
@[simp] theorem truD_bl {b : Bool} {ih : IH} : truD (.bl b) ih = some b := rfl
@[simp] theorem fLen_obj {n : Nat} {ih : IH} : fLen [.obj n] ih = (match ih[n]? with
    | some (.lst ds) => some ds.length
    | some (.dct kvs) => some kvs.length
    | some (.lck kvs) => some kvs.length
    | _ => none).map fun n => (.int (n : Nat), ih) := by
  simp only [fLen, f1, lenOf, Option.map_map]
  rfl
@[simp] theorem fLen_tup {ds : List D} {ih : IH} : fLen [.tup ds] ih = some (.int (ds.length : Nat), ih) := rfl
@[simp] theorem fLen_lst {ds : List D} {ih : IH} : fLen [.lst ds] ih = some (.int (ds.length : Nat), ih) := rfl
@[simp] theorem fInD_ap {a b : D} {ih : IH} : fInD a b ih = (getKvs b ih).bind fun kvs => (hkey a).map fun k => (.bl (dlook kvs k).isSome, ih) := rfl
@[simp] theorem fNotInD_ap {a b : D} {ih : IH} : fNotInD a b ih = (getKvs b ih).bind fun kvs => (hkey a).map fun k => (.bl (!(dlook kvs k).isSome), ih) := rfl
@[simp] theorem fIsN_non {a : D} {ih : IH} : fIsN a .non ih = some (.bl (isNon a), ih) := rfl
@[simp] theorem fNotN_non {a : D} {ih : IH} : fNotN a .non ih = some (.bl (!isNon a), ih) := rfl
@[simp] theorem fSortD_ap {d : D} {ih : IH} : fSortD [d] ih = ((getKvs d ih).bind fun kvs => asInts (kvs.map (·.1))).map fun is => (.lst ((sortI is).map .int), ih) := by
  simp only [fSortD, f1, Option.map_map]
  rfl
@[simp] theorem fTupleX_lst {ds : List D} {ih : IH} : fTupleX [.lst ds] ih = some (.tupx ds, ih) := rfl
@[simp] theorem fSortK_ap {d : D} {ih : IH} : fSortK d ih = (getKvs d ih).bind fun kvs => (asInts (kvs.map (·.1))).map fun is => (.lst ((sortP (is.zip (kvs.map (·.2)))).map fun p => .tup [.int p.1, p.2]), ih) := rfl
@[simp] theorem fAll_lst {ds : List D} {ih : IH} : fAll [.lst ds] ih = (asBools ds).map fun bs => (.bl (bs.all id), ih) := by
  simp only [fAll, f1, listOf, Option.bind_some, Option.map_map]
  rfl
@[simp] theorem asBools_nil : asBools [] = some [] := rfl
@[simp] theorem asBools_cons {b : Bool} {ds : List D} : asBools (.bl b :: ds) = (asBools ds).map fun bs => b :: bs := rfl
@[simp] theorem fDictX_ap {ds : List D} {ih : IH} : fDictX [.tupx ds] ih = (pairsD ds).bind fun r => if (r.map (·.1)).Nodup then some (.dct (r.map fun p => .int p.1) (r.map (·.2)), ih) else none := by
  simp only [fDictX, f1, Option.map_bind]
  congr 1
  funext r
  simp only [Function.comp]
  split <;> rfl
mutual
theorem fz_clean {ih : IH} {n : Nat} : ∀ (k : Nat) (d : D), clean n d = true → fz ih n k d = some d
  | 0, d, h => by
    rw [fz, if_pos h]
  | k + 1, .obj j, h => by
    simp [clean] at h
    rw [fz, if_pos h]
  | k + 1, .tup ds, h => by
    rw [clean] at h
    rw [fz, fzs_clean (k + 1) ds h]
    rfl
  | k + 1, .tupx ds, h => by
    rw [clean] at h
    rw [fz, fzs_clean (k + 1) ds h]
    rfl
  | k + 1, .lst ds, h => by
    rw [clean] at h
    rw [fz, fzs_clean (k + 1) ds h]
    rfl
  | k + 1, .dct ks vs, h => by
    rw [fz, if_pos h]
    all_goals (intros; contradiction)
  | k + 1, .non, h => by
    rw [fz, if_pos h]
    all_goals (intros; contradiction)
  | k + 1, .bl _, h => by
    rw [fz, if_pos h]
    all_goals (intros; contradiction)
  | k + 1, .int _, h => by
    rw [fz, if_pos h]
    all_goals (intros; contradiction)
  | k + 1, .str _, h => by
    rw [fz, if_pos h]
    all_goals (intros; contradiction)
theorem fzs_clean {ih : IH} {n : Nat} : ∀ (k : Nat) (ds : List D), cleans n ds = true → fzs ih n k ds = some ds
  | _, [], _ => by simp [fzs]
  | k, d :: ds, h => by
    rw [cleans, Bool.and_eq_true] at h
    rw [fzs, fz_clean k d h.1, fzs_clean k ds h.2]
    rfl
end
/-- a run that only adds things, its value told -/
theorem pureM_of {m : List D → M D} {ds : List D} {ih r : IH} {d : D} (h : m ds ih = some (d, ih ++ r)) (hd : clean ih.length d = true) : pureM m ds ih = some (d, ih) := by
  simp [pureM, h, fz_clean 4 d hd]
theorem cleans_map {α : Type} {f : α → D} {n : Nat} : ∀ {l : List α}, (∀ x ∈ l, clean n (f x) = true) → cleans n (l.map f) = true
  | [], _ => by simp [cleans]
  | x :: l, h => by
    rw [List.map_cons, cleans, h x (List.mem_cons_self ..), cleans_map fun y hy => h y (List.mem_cons_of_mem _ hy)]
    rfl
namespace Tm
theorem clean_enc {n : Nat} : ∀ t : Tm, clean n (enc t) = true
  | v _ => by simp [enc, clean]
  | k _ => by simp [enc, clean, cleans]
  | u _ t => by simp [enc, clean, cleans, clean_enc t]
  | b _ s t => by simp [enc, clean, cleans, clean_enc s, clean_enc t]
end Tm
/-! rows of keys and values -/
theorem dlook_nil {k : NestedKey} : dlook [] k = none := rfl
theorem dlook_cons {p : D × D} {l : List (D × D)} {k : NestedKey} : dlook (p :: l) k = if hkey p.1 = some k then some p.2 else dlook l k := by
  unfold dlook
  rw [List.find?_cons]
  by_cases h : hkey p.1 = some k
  · simp [h]
  · simp [h]
theorem dlook_append {l r : List (D × D)} {k : NestedKey} : dlook (l ++ r) k = (dlook l k).or (dlook r k) := by
  unfold dlook
  rw [List.find?_append]
  cases List.find? (fun p => decide (hkey p.1 = some k)) l <;> rfl
/-- a dict by a list: keys by kd, values by vd -/
def kvs {α : Type} (kd vd : α → D) (l : List α) : List (D × D) := l.map fun x => (kd x, vd x)
theorem kvs_len {α : Type} {kd vd : α → D} {l : List α} : (kvs kd vd l).length = l.length := by simp [kvs]
theorem dlook_kvs {α : Type} {kd vd : α → D} {kk : α → NestedKey} {k : NestedKey} : ∀ {l : List α}, (∀ x ∈ l, hkey (kd x) = some (kk x)) → dlook (kvs kd vd l) k = (l.find? fun x => decide (kk x = k)).map vd
  | [], _ => rfl
  | x :: l, h => by
    have ih := dlook_kvs (vd := vd) (k := k) fun y hy => h y (List.mem_cons_of_mem _ hy)
    unfold kvs at ih ⊢
    rw [List.map_cons, dlook_cons, h x (List.mem_cons_self ..), List.find?_cons]
    by_cases e : kk x = k
    · simp [e]
    · simp [e, ih]
theorem dput_new {l : List (D × D)} {k : NestedKey} {kd d : D} (h : dlook l k = none) : dput l kd k d = l ++ [(kd, d)] := by
  simp [dput, h]
theorem dput_same {l : List (D × D)} {k : NestedKey} {kd d : D} (h : ∀ p ∈ l, hkey p.1 = some k → p.2 = d) (hs : (dlook l k).isSome = true) : dput l kd k d = l := by
  unfold dput
  rw [if_pos hs]
  refine (List.map_congr_left fun p hp => ?_).trans (List.map_id' l)
  by_cases e : hkey p.1 = some k
  · rw [if_pos e, ← h p hp e]
  · rw [if_neg e]
end Gh
end
section
set_option Elab.async false
set_option linter.all false
set_option maxRecDepth 100000
/-! Runs: ==, dicts by rows of values. -/
namespace Gh
open PySem PySem.Spec PyProof.Rows L2
theorem eqdI {i : Int} : eqd (.int i) = some (.int i) := by
  simp [eqd, pyOf, SeqAt.shaped, PyData.canLay0, PyData.depth]
@[simp] theorem fEq_int {i j : Int} {ih : IH} : fEq (.int i) (.int j) ih = some (.bl (decide (i = j)), ih) := by
  simp only [fEq, eqdI, Option.bind_some, Option.map_some, PyData.eqv]
  congr
@[simp] theorem fNe_int {i j : Int} {ih : IH} : fNe (.int i) (.int j) ih = some (.bl (!decide (i = j)), ih) := by
  simp only [fNe, eqdI, Option.bind_some, Option.map_some, PyData.eqv]
  congr
theorem eqdS {x : Str} (h : PyData.strOk x = true) : eqd (.str x) = some (.str x) := by
  simp [eqd, pyOf, SeqAt.shaped, PyData.canLay0, PyData.depth, h]
theorem fEq_str {x y : Str} (hx : PyData.strOk x = true) (hy : PyData.strOk y = true) {ih : IH} : fEq (.str x) (.str y) ih = some (.bl (decide (x = y)), ih) := by
  simp only [fEq, eqdS hx, eqdS hy, Option.bind_some, Option.map_some, PyData.eqv]
  by_cases e : x = y <;> simp [e]
theorem fNe_str {x y : Str} (hx : PyData.strOk x = true) (hy : PyData.strOk y = true) {ih : IH} : fNe (.str x) (.str y) ih = some (.bl (!decide (x = y)), ih) := by
  simp only [fNe, eqdS hx, eqdS hy, Option.bind_some, Option.map_some, PyData.eqv]
  by_cases e : x = y <;> simp [e]
theorem nm_eq {h h' : Hd} : (h.nm = h'.nm) = (h = h') := propext ⟨Hd.nm_inj, fun e => e ▸ rfl⟩
@[simp] theorem fEq_nm {h h' : Hd} {ih : IH} : fEq (.str h.nm) (.str h'.nm) ih = some (.bl (decide (h = h')), ih) := by
  rw [fEq_str (Tm.nm_ok h) (Tm.nm_ok h')]
  simp only [nm_eq]
@[simp] theorem fNe_nm {h h' : Hd} {ih : IH} : fNe (.str h.nm) (.str h'.nm) ih = some (.bl (!decide (h = h')), ih) := by
  rw [fNe_str (Tm.nm_ok h) (Tm.nm_ok h')]
  simp only [nm_eq]
@[simp] theorem fEq_bl {a b : Bool} {ih : IH} : fEq (.bl a) (.bl b) ih = some (.bl (decide (a = b)), ih) := by
  cases a <;> cases b <;> rfl
@[simp] theorem fNe_bl {a b : Bool} {ih : IH} : fNe (.bl a) (.bl b) ih = some (.bl (!decide (a = b)), ih) := by
  cases a <;> cases b <;> rfl
@[simp] theorem fNotB_bl {a b : Bool} {ih : IH} : fNotB (.bl a) (.bl b) ih = some (.bl (!decide (a = b)), ih) := rfl
@[simp] theorem srcZ2_tup {x y : List D} {ih : IH} : srcZ2 [.tup x, .tup y] ih = some ⟨(x.zip y).map fun p => .tup [p.1, p.2], fun _ => true⟩ := rfl
theorem fIx_obj {n : Nat} {b : D} {ih : IH} {l : List (D × D)} (h : ih[n]? = some (.dct l)) : fIx (.obj n) b ih = (hkey b).bind fun k => (dlook l k).map fun d => (d, ih) := by
  simp only [fIx, h, fIxD, getKvs, Option.bind_some]
theorem fIx_lck {n : Nat} {b : D} {ih : IH} {l : List (D × D)} (h : ih[n]? = some (.lck l)) : fIx (.obj n) b ih = (hkey b).bind fun k => (dlook l k).map fun d => (d, ih) := by
  simp only [fIx, h, fIxD, getKvs, Option.bind_some]
@[simp] theorem fIx_dctv {ks vs : List D} {b : D} {ih : IH} : fIx (.dct ks vs) b ih = (hkey b).bind fun k => (dlook (ks.zip vs) k).map fun d => (d, ih) := rfl
theorem fIx_objL {n : Nat} {i : Int} {ih : IH} {l : List D} (h : ih[n]? = some (.lst l)) : fIx (.obj n) (.int i) ih = (atD l i).map fun d => (d, ih) := by
  simp only [fIx, h, asInt_int, Option.bind_some]
theorem set_same {α : Type} {l : List α} {n : Nat} {x : α} (h : l[n]? = some x) : l.set n x = l := by
  obtain ⟨h1, rfl⟩ := List.getElem?_eq_some_iff.mp h
  exact List.set_getElem_self h1
theorem get_set {α : Type} {l : List α} {n : Nat} {x y : α} (h : l[n]? = some x) : (l.set n y)[n]? = some y := by
  have h1 := (List.getElem?_eq_some_iff.mp h).1
  simp [h1]
theorem get_set_ne {α : Type} {l : List α} {n k : Nat} {y : α} (h : n ≠ k) : (l.set n y)[k]? = l[k]? := by
  simp [List.getElem?_set, h]
namespace Tm
/-- rows of values as dicts -/
def encA (l : AL) : List (D × D) := kvs (fun p : Nat × Tm => .int p.1) (fun p => enc p.2) l
theorem encA_len {l : AL} : (encA l).length = l.length := kvs_len
theorem lookup_find {x : Nat} : ∀ {l : AL}, l.lookup x = (l.find? fun p => decide (NestedKey.num (p.1 : Int) = .num (x : Int))).map (·.2)
  | [] => rfl
  | (y, t) :: l => by
    rw [List.lookup, List.find?_cons]
    by_cases e : x = y
    · subst e
      simp
    · have e1 : (x == y) = false := by simpa using e
      have e2 : decide (NestedKey.num (y : Int) = .num (x : Int)) = false := by
        simp
        omega
      rw [e1, e2]
      exact lookup_find
theorem encA_look {l : AL} {x : Nat} : dlook (encA l) (.num x) = (l.lookup x).map enc := by
  rw [encA, dlook_kvs (kk := fun p : Nat × Tm => .num p.1) fun p _ => hkeyI, lookup_find, Option.map_map]
  rfl
theorem encA_new {l : AL} {x : Nat} {t : Tm} (h : l.lookup x = none) : dput (encA l) (.int x) (.num x) (enc t) = encA (l ++ [(x, t)]) := by
  rw [dput_new (by rw [encA_look, h]; rfl)]
  simp [encA, kvs]
def srt (l : AL) : AL := l.mergeSort fun a b => decide (a.1 ≤ b.1)
def Keyed (l : AL) : Prop := (l.map (·.1)).Nodup
theorem lookup_iff {l : AL} (h : Keyed l) {x : Nat} {t : Tm} : l.lookup x = some t ↔ (x, t) ∈ l := by
  induction l with
  | nil => simp
  | cons p l ih =>
    obtain ⟨y, s⟩ := p
    unfold Keyed at h ih
    rw [List.map_cons, List.nodup_cons] at h
    rw [List.lookup]
    by_cases e : x = y
    · subst e
      simp
      constructor
      · intro e
        exact .inl e.symm
      · rintro (e | e)
        · exact e.symm
        · exact absurd (List.mem_map.mpr ⟨_, e, rfl⟩) h.1
    · have e1 : (x == y) = false := by simpa using e
      rw [e1]
      simp only
      rw [ih h.2]
      simp [e]
theorem srt_keyed {l : AL} (h : Keyed l) : Keyed (srt l) := ((List.mergeSort_perm ..).map _).nodup_iff.mpr h
theorem srt_lookup {l : AL} (h : Keyed l) {x : Nat} : (srt l).lookup x = l.lookup x := by
  apply Option.ext
  intro t
  rw [lookup_iff h, lookup_iff (srt_keyed h), srt, List.mem_mergeSort]
/-- pairs as a tuple -/
def prD (l : AL) : List D := l.map fun p => .tup [.int p.1, enc p.2]
theorem pairsD_prD : ∀ l : AL, pairsD (prD l) = some (l.map fun p => ((p.1 : Int), enc p.2))
  | [] => rfl
  | p :: l => by
    show (pairsD (prD l)).map _ = _
    rw [pairsD_prD l]
    rfl
theorem dictX_prD {l : AL} (h : Keyed l) {ih : IH} : fDictX [.tupx (prD l)] ih = some (.dct ((encA l).map (·.1)) ((encA l).map (·.2)), ih) := by
  rw [fDictX_ap, pairsD_prD]
  have e : (List.map (fun x => x.1) (List.map (fun p : Nat × Tm => ((p.1 : Int), enc p.2)) l)).Nodup := by
    rw [List.map_map]
    have := h
    unfold Keyed at this
    have q : (List.map (fun n : Nat => (n : Int)) (l.map (·.1))).Nodup := by
      exact List.pairwise_map.mpr (this.imp fun hne e => hne (Int.ofNat.inj e))
    simpa [List.map_map, Function.comp_def] using q
  simp only [Option.bind_some]
  rw [if_pos e]
  simp [encA, kvs, List.map_map, Function.comp_def]
theorem zip_fst_snd {α β : Type} : ∀ l : List (α × β), (l.map (·.1)).zip (l.map (·.2)) = l
  | [] => rfl
  | p :: l => by
    rw [List.map_cons, List.map_cons, List.zip_cons_cons, zip_fst_snd l]
theorem mt_len : ∀ (p t : Tm) (l : AL), (mt p t l).2.length ≤ l.length + size p
  | .v x, t, l => by
    rw [mt]
    split
    · simp [size]
    · simp [size]
  | .k h, t, l => by
    cases t <;> simp only [mt, size] <;> omega
  | .u h p, t, l => by
    cases t <;> simp only [mt, size] <;> try omega
    split
    · have := mt_len p ‹_› l
      omega
    · simp
  | .b h p q, t, l => by
    cases t <;> simp only [mt, size] <;> try omega
    split
    · rename_i h' t r _
      have := mt_len p t l
      have := mt_len q r (mt p t l).2
      simp only
      omega
    · simp
end Tm
end Gh
end
section
set_option Elab.async false
set_option linter.all false
set_option maxRecDepth 100000
/-! k67: what the defs give, over terms. -/
namespace Gh.K67
open PySem PySem.Spec PyProof.Rows L2 Tm
theorem pg {m : Nat} {f : Fn} : (progs (m + 1)).1 f = body (progs m).1 (progs m).2 f := rfl
theorem is_variable_ok {m : Nat} {t : Tm} {ih : IH} : (progs (m + 1)).1 .is_variable [enc t] ih = some (.bl (isV t), ih) := by
  rw [pg, body, r_is_variable, bodyM_ap]
  cases t <;> simp [enc, isV]
theorem is_variable_tup {m : Nat} {ds : List D} {ih : IH} : (progs (m + 1)).1 .is_variable [.tup ds] ih = some (.bl false, ih) := by
  rw [pg, body, r_is_variable, bodyM_ap]
  simp
theorem is_variable_int {m : Nat} {i : Int} {ih : IH} : (progs (m + 1)).1 .is_variable [.int i] ih = some (.bl true, ih) := by
  rw [pg, body, r_is_variable, bodyM_ap]
  simp
theorem term_size_ok : ∀ {t : Tm} {m : Nat} {ih : IH}, t.dep + 2 ≤ m → (progs m).1 .term_size [enc t] ih = some (.int t.size, ih)
  | .v n, m + 2, ih, h => by
    rw [pg, body, r_term_size, bodyM_ap]
    simp [is_variable_int, size, enc]
  | .k x, m + 2, ih, h => by
    rw [pg, body, r_term_size, bodyM_ap]
    simp [is_variable_tup, size, enc, sz]
  | .u x t, m + 2, ih, h => by
    simp only [dep] at h
    rw [pg, body, r_term_size, bodyM_ap]
    simp [is_variable_tup, size, enc, sz, term_size_ok (t := t) (m := m + 1) (by omega)]
    omega
  | .b x s t, m + 2, ih, h => by
    simp only [dep] at h
    rw [pg, body, r_term_size, bodyM_ap]
    simp [is_variable_tup, size, enc, sz, term_size_ok (t := t) (m := m + 1) (by omega), term_size_ok (t := s) (m := m + 1) (by omega)]
    omega

/-! variables_of -/
def kvV (acc : List Nat) : List (D × D) := kvs (fun x : Nat => .int x) (fun _ => .bl true) acc
theorem kvV_look {acc : List Nat} {x : Nat} : (dlook (kvV acc) (.num x)).isSome = decide (x ∈ acc) := by
  rw [kvV, dlook_kvs (kk := fun x : Nat => .num x) fun x _ => hkeyI]
  rw [Option.isSome_map, Bool.eq_iff_iff, List.find?_isSome]
  simp only [decide_eq_true_eq]
  constructor
  · rintro ⟨y, hy, e⟩
    simp at e
    have : y = x := by omega
    exact this ▸ hy
  · intro h
    exact ⟨x, h, rfl⟩
theorem kvV_put {acc : List Nat} {x : Nat} : dput (kvV acc) (.int x) (.num x) (.bl true) = kvV (dd acc [x]) := by
  by_cases h : x ∈ acc
  · rw [dput_same (fun p hp _ => ?_) (by rw [kvV_look]; simpa using h), dd, if_pos h, dd]
    obtain ⟨y, _, rfl⟩ := List.mem_map.mp hp
    rfl
  · rw [dput_new, dd, if_neg h, dd]
    · simp [kvV, kvs]
    · have := kvV_look (acc := acc) (x := x)
      rw [decide_eq_false h] at this
      simpa using this
def ssz (st : List Tm) : Nat := (st.map size).sum
theorem ssz_len : ∀ st : List Tm, st.length ≤ ssz st
  | [] => Nat.le_refl _
  | t :: st => by
    have := ssz_len st
    have := size_pos t
    simp only [ssz, List.map_cons, List.sum_cons, List.length_cons] at *
    omega
theorem dd_len : ∀ {xs acc : List Nat}, (dd acc xs).length ≤ acc.length + xs.length
  | [], acc => Nat.le_refl _
  | x :: xs, acc => by
    rw [dd]
    split
    · have := dd_len (xs := xs) (acc := acc)
      simp only [List.length_cons]
      omega
    · have := dd_len (xs := xs) (acc := acc ++ [x])
      simp only [List.length_append, List.length_cons, List.length_nil] at *
      omega
def ocr (st : List Tm) : List Nat := st.flatMap fun t => (occ t).reverse
theorem vars_loop {m : Nat} {ih : IH} {t0 : Option D} : ∀ (N : Nat) (st : List Tm) (acc : List Nat) (x : Option D), ssz st < N → acc.length + ssz st ≤ 1000000 →
    ∃ x', whileN (tTru (xVar 2)) (ySeq (ySet 3 (xMethC isLstH fPop (xVar 2) xNil)) (yIf (tVal (xArgs ((progs (m + 1)).1 .is_variable) (xCons (xVar 3) xNil))) (yAsg (xC (.bl true)) (gSb (xVar 1) (xVar 3) wSetD)) (yExpr (xMethC isLstH fExtend (xVar 2) (xCons (xSl (xVar 3) (xPart (xC (.int 1))) xNoPart) xNil)))))
      N [t0, some (.obj ih.length), some (.obj (ih.length + 1)), x] (ih ++ [.dct (kvV acc), .lst (st.map enc).reverse]) = some (.nx, [t0, some (.obj ih.length), some (.obj (ih.length + 1)), x'], ih ++ [.dct (kvV (dd acc (ocr st))), .lst []])
  | 0, _, _, _, h, _ => by omega
  | N + 1, [], acc, x, h, h2 => by
    refine ⟨x, ?_⟩
    rw [whileN]
    simp [ocr, dd]
  | N + 1, t :: st, acc, x, h, h2 => by
    have hl := ssz_len st
    simp only [ssz, List.map_cons, List.sum_cons] at h h2 hl
    have hp := size_pos t
    rw [whileN]
    cases t with
    | v n =>
      have hd := dd_len (xs := [n]) (acc := acc)
      simp only [size, List.length_cons, List.length_nil] at h h2 hd
      obtain ⟨x', e⟩ := vars_loop (m := m) (ih := ih) (t0 := t0) N st (dd acc [n]) (some (.int n)) (by simp only [ssz]; omega) (by simp only [ssz]; omega)
      refine ⟨x', ?_⟩
      have e2 : dd acc (ocr (.v n :: st)) = dd (dd acc [n]) (ocr st) := by
        rw [← dd_append]
        rfl
      rw [e2, ← e]
      have h3 : (kvV acc).length < sizeLine := by
        rw [kvV, kvs_len, sz]
        omega
      simp [is_variable_int, enc, kvV_put, h3]
    | k c =>
      obtain ⟨x', e⟩ := vars_loop (m := m) (ih := ih) (t0 := t0) N st acc (some (enc (.k c))) (by simp only [ssz]; omega) (by simp only [ssz]; omega)
      refine ⟨x', ?_⟩
      have e2 : dd acc (ocr (.k c :: st)) = dd acc (ocr st) := rfl
      rw [e2, ← e]
      have h3 : st.length ≤ sizeLine := by
        rw [sz]
        omega
      simp [is_variable_tup, enc, h3]
    | u c s =>
      simp only [size] at h h2
      obtain ⟨x', e⟩ := vars_loop (m := m) (ih := ih) (t0 := t0) N (s :: st) acc (some (enc (.u c s))) (by simp only [ssz, List.map_cons, List.sum_cons]; omega) (by simp only [ssz, List.map_cons, List.sum_cons]; omega)
      refine ⟨x', ?_⟩
      have e2 : dd acc (ocr (.u c s :: st)) = dd acc (ocr (s :: st)) := rfl
      rw [e2, ← e]
      have h3 : st.length + 1 ≤ sizeLine := by
        rw [sz]
        omega
      simp [is_variable_tup, enc, h3]
    | b c s s' =>
      simp only [size] at h h2
      obtain ⟨x', e⟩ := vars_loop (m := m) (ih := ih) (t0 := t0) N (s' :: s :: st) acc (some (enc (.b c s s'))) (by simp only [ssz, List.map_cons, List.sum_cons]; omega) (by simp only [ssz, List.map_cons, List.sum_cons]; omega)
      refine ⟨x', ?_⟩
      have e2 : dd acc (ocr (.b c s s' :: st)) = dd acc (ocr (s' :: s :: st)) := by
        simp [ocr, occ]
      rw [e2, ← e]
      have h3 : st.length + 2 ≤ sizeLine := by
        rw [sz]
        omega
      simp [is_variable_tup, enc, h3]

theorem asInts_map {α : Type} {f : α → Int} : ∀ l : List α, asInts (l.map fun x => .int (f x)) = some (l.map f)
  | [] => rfl
  | x :: l => by
    rw [List.map_cons, asInts_cons, asInts_map l]
    rfl
def vrs (t : Tm) : List Nat := (dd [] (occ t).reverse).mergeSort fun a b => decide (a ≤ b)
theorem mem_vrs {t : Tm} {x : Nat} : x ∈ vrs t ↔ x ∈ occ t := by
  rw [vrs, List.mem_mergeSort, dd_mem]
  simp
theorem nodup_vrs {t : Tm} : (vrs t).Nodup := (List.mergeSort_perm ..).nodup_iff.mpr (dd_nodup List.nodup_nil)
theorem sortI_cast (l : List Nat) : sortI (l.map fun x : Nat => (x : Int)) = (l.mergeSort fun a b => decide (a ≤ b)).map fun x : Nat => (x : Int) := by
  rw [sortI, List.map_mergeSort]
  intro a _ b _
  simp
theorem size_len {t : Tm} : (occ t).length ≤ size t := by
  induction t with
  | v n => simp [occ, size]
  | k c => simp [occ, size]
  | u c s ih =>
    simp only [occ, size]
    omega
  | b c s s' ih ih' =>
    simp only [occ, size, List.length_append]
    omega
theorem variables_of_ok {m : Nat} {t : Tm} {ih : IH} (h : size t ≤ 1000000) : (progs (m + 2)).1 .variables_of [enc t] ih = some (.lst ((vrs t).map fun x : Nat => .int x), ih) := by
  rw [pg, body, r_variables_of]
  obtain ⟨x', e⟩ := vars_loop (m := m) (ih := ih) (t0 := some (enc t)) (size t + 1) [t] [] none (by simp [ssz]) (by simpa [ssz] using h)
  refine pureM_of (r := [.dct (kvV (dd [] (ocr [t]))), .lst []]) ?_ ?_
  · rw [bodyM_ap]
    have e2 := yWhile_of e
    have e0 : kvV [] = [] := rfl
    have e4 : ocr [t] = (occ t).reverse := by simp [ocr]
    have e3 : (kvV (dd [] (occ t).reverse)).map (·.1) = (dd [] (occ t).reverse).map fun x : Nat => D.int (x : Int) := by
      simp [kvV, kvs]
    rw [e0, e4] at e2
    rw [e4]
    simp at e2
    simp [sz, e2]
    rw [e3, asInts_map]
    simp [sortI_cast, vrs]
  · exact cleans_map fun x _ => rfl
end Gh.K67
end
section
set_option Elab.async false
set_option linter.all false
set_option maxRecDepth 100000
/-! k67: putting in, matching, tidying, common forms. -/
namespace Gh.K67
open PySem PySem.Spec PyProof.Rows L2 Tm
theorem put_in_ok {d : D} {ih : IH} {kv : List (D × D)} {f : Nat → Option Tm} (hg : getKvs d ih = some kv) : ∀ {t : Tm} {m : Nat}, (∀ x ∈ occ t, dlook kv (.num x) = (f x).map enc) → t.dep + 2 ≤ m →
    (progs m).1 .put_in [enc t, d] ih = some (enc (sb (fun x => (f x).getD (.v x)) t), ih)
  | .v n, m + 2, hl, h => by
    have := hl n (by simp [occ])
    rw [pg, body, r_put_in, bodyM_ap]
    simp [is_variable_int, enc, sb, hg, this]
    cases f n <;> rfl
  | .k x, m + 2, hl, h => by
    rw [pg, body, r_put_in, bodyM_ap]
    simp [is_variable_tup, enc, sb, hg, sz]
  | .u x t, m + 2, hl, h => by
    simp only [dep] at h
    rw [pg, body, r_put_in, bodyM_ap]
    simp [is_variable_tup, enc, sb, sz, put_in_ok hg (t := t) (m := m + 1) hl (by omega)]
  | .b x s t, m + 2, hl, h => by
    simp only [dep] at h
    rw [pg, body, r_put_in, bodyM_ap]
    simp [is_variable_tup, enc, sb, sz, put_in_ok hg (t := t) (m := m + 1) (fun x hx => hl x (by simp [occ, hx])) (by omega), put_in_ok hg (t := s) (m := m + 1) (fun x hx => hl x (by simp [occ, hx])) (by omega)]
/-- by a row of values -/
theorem put_in_al {d : D} {ih : IH} {l : AL} (hg : getKvs d ih = some (encA l)) {t : Tm} {m : Nat} (h : t.dep + 2 ≤ m) : (progs m).1 .put_in [enc t, d] ih = some (enc (sb (fn l) t), ih) :=
  put_in_ok (f := fun x => l.lookup x) hg (fun x _ => encA_look) h
theorem asInts_enc (l : AL) : asInts ((encA l).map (·.1)) = some (l.map fun p => (p.1 : Int)) := by
  have : (encA l).map (·.1) = l.map fun p => D.int (p.1 : Int) := by simp [encA, kvs, List.map_map, Function.comp_def]
  rw [this, asInts_map]
theorem pairs_of_ok {d : D} {ih : IH} {l : AL} {m : Nat} (hg : getKvs d ih = some (encA l)) : (progs (m + 1)).1 .pairs_of [d] ih = some (.tupx (prD (srt l)), ih) := by
  rw [pg, body, r_pairs_of, bodyM_ap]
  have e : (List.map (fun p : Nat × Tm => (p.1 : Int)) l).zip ((encA l).map (·.2)) = l.map fun p => ((p.1 : Int), enc p.2) := by
    simp only [encA, kvs, List.map_map, Function.comp_def]
    exact List.zip_map' ..
  have e2 : sortP (l.map fun p => ((p.1 : Int), enc p.2)) = (srt l).map fun p => ((p.1 : Int), enc p.2) := by
    rw [sortP, srt, List.map_mergeSort]
    intro a _ b _
    simp [leP]
  simp [hg]
  rw [asInts_enc]
  simp [e, e2, prD]
theorem matched_ok {n : Nat} : ∀ {p t : Tm} {m : Nat} {ih : IH} {l : AL}, ih[n]? = some (.dct (encA l)) → p.dep + 2 ≤ m → (∀ x s, l.lookup x = some s → s.dep ≤ 64) → t.dep ≤ 64 → l.length + size p ≤ 1000000 →
    (progs m).1 .matched [enc p, enc t, .obj n] ih = some (.bl (mt p t l).1, ih.set n (.dct (encA (mt p t l).2))) ∧ ∀ x s, (mt p t l).2.lookup x = some s → s.dep ≤ 64
  | .v x, t, m + 2, ih, l, hn, h, hd, ht, hz => by
    rw [Tm.mt]
    simp only [size] at hz
    cases e : l.lookup x with
    | some s =>
      simp only
      refine ⟨?_, hd⟩
      rw [pg, body, r_matched, bodyM_ap]
      simp [is_variable_int, enc, hn, encA_look, e, fIx_obj hn, fEq_enc (hd x s e) ht, set_same hn]
    | none =>
      simp only
      refine ⟨?_, fun y s q => ?_⟩
      · rw [pg, body, r_matched, bodyM_ap]
        have hz2 : (encA l).length < sizeLine := by
          rw [encA_len, sz]
          omega
        simp [is_variable_int, enc, hn, encA_look, e, encA_new e, hz2]
      · rw [lookup_snoc] at q
        cases e2 : l.lookup y with
        | some r =>
          rw [e2] at q
          cases q
          exact hd y _ e2
        | none =>
          rw [e2] at q
          simp only [Option.none_or] at q
          split at q
          · cases q
            exact ht
          · cases q
  | .k c, t, m + 2, ih, l, hn, h, hd, ht, hz => by
    cases t with
    | k c' =>
      refine ⟨?_, hd⟩
      rw [pg, body, r_matched, bodyM_ap]
      by_cases e : c = c'
      · simp [is_variable_tup, enc, Tm.mt, e, set_same hn, sz]
      · simp [is_variable_tup, enc, Tm.mt, e, set_same hn, sz]
    | _ =>
      refine ⟨?_, hd⟩
      rw [pg, body, r_matched, bodyM_ap]
      simp [is_variable_tup, is_variable_int, enc, Tm.mt, set_same hn, sz]
  | .u c p, t, m + 2, ih, l, hn, h, hd, ht, hz => by
    cases t with
    | u c' t =>
      simp only [dep, size] at h ht hz
      have a := matched_ok (n := n) (p := p) (t := t) (m := m + 1) hn (by omega) hd (by omega) (by omega)
      by_cases e : c = c'
      · refine ⟨?_, by simpa [Tm.mt, e] using a.2⟩
        rw [pg, body, r_matched, bodyM_ap]
        simp [is_variable_tup, enc, Tm.mt, e, a.1, sz]
      · refine ⟨?_, by simpa [Tm.mt, e] using hd⟩
        rw [pg, body, r_matched, bodyM_ap]
        simp [is_variable_tup, enc, Tm.mt, e, set_same hn, sz]
    | _ =>
      refine ⟨?_, hd⟩
      rw [pg, body, r_matched, bodyM_ap]
      simp [is_variable_tup, is_variable_int, enc, Tm.mt, set_same hn, sz]
  | .b c p q, t, m + 2, ih, l, hn, h, hd, ht, hz => by
    cases t with
    | b c' t r =>
      simp only [dep, size] at h ht hz
      have a := matched_ok (n := n) (p := p) (t := t) (m := m + 1) hn (by omega) hd (by omega) (by omega)
      have hl := mt_len p t l
      have b := matched_ok (n := n) (p := q) (t := r) (m := m + 1) (get_set (y := .dct (encA (mt p t l).2)) hn) (by omega) a.2 (by omega) (by omega)
      by_cases e : c = c'
      · refine ⟨?_, by simpa [Tm.mt, e] using b.2⟩
        rw [pg, body, r_matched, bodyM_ap]
        simp [is_variable_tup, enc, Tm.mt, e, a.1, b.1, sz]
      · refine ⟨?_, by simpa [Tm.mt, e] using hd⟩
        rw [pg, body, r_matched, bodyM_ap]
        simp [is_variable_tup, enc, Tm.mt, e, set_same hn, sz]
    | _ =>
      refine ⟨?_, hd⟩
      rw [pg, body, r_matched, bodyM_ap]
      simp [is_variable_tup, is_variable_int, enc, Tm.mt, set_same hn, sz]
theorem clean_prD {n : Nat} {l : AL} : cleans n (prD l) = true := cleans_map fun p _ => by simp [clean, cleans, clean_enc]
/-- what match gives -/
def mtD (p t : Tm) : D := if (mt p t []).1 = true then .tupx (prD (srt (mt p t []).2)) else .non
theorem match_ok {p t : Tm} {m : Nat} {ih : IH} (h : p.dep + 3 ≤ m) (ht : t.dep ≤ 64) (hz : size p ≤ 1000000) : (progs m).1 .match_ [enc p, enc t] ih = some (mtD p t, ih) := by
  obtain ⟨m, rfl⟩ : ∃ j, m = j + 1 := ⟨m - 1, by omega⟩
  have a := (matched_ok (n := ih.length) (p := p) (t := t) (m := m) (ih := ih ++ [.dct []]) (l := []) (by simp; rfl) (by omega) (by simp) ht (by simpa using hz)).1
  obtain ⟨m, rfl⟩ : ∃ j, m = j + 1 := ⟨m - 1, by omega⟩
  rw [pg, body, r_match_]
  refine pureM_of (r := [.dct (encA (mt p t []).2)]) ?_ ?_
  · rw [bodyM_ap]
    simp at a
    have b := pairs_of_ok (d := .obj ih.length) (ih := ih ++ [.dct (encA (mt p t []).2)]) (l := (mt p t []).2) (m := m) (by simp)
    by_cases e : (mt p t []).1 = true
    · simp [a, e, b, mtD]
    · simp [a, e, mtD]
  · unfold mtD
    split
    · rw [clean]
      exact clean_prD
    · rfl
instance {p t : Tm} : Decidable (Le p t) := decidable_of_iff _ mt_iff
theorem match_non {p t : Tm} : isNon (mtD p t) = !decide (Le p t) := by
  unfold mtD
  by_cases e : (mt p t []).1 = true
  · rw [if_pos e, decide_eq_true (mt_iff.mp e)]
    rfl
  · rw [if_neg e, decide_eq_false fun z => e (mt_iff.mpr z)]
    rfl
end Gh.K67
end
section
set_option Elab.async false
set_option linter.all false
set_option maxRecDepth 100000
/-! k67: tidying, common forms. -/
namespace Gh.K67
open PySem PySem.Spec PyProof.Rows L2 Tm
/-! tidy_term: numbers by their first standing -/
def kvN (acc : List Nat) : List (D × D) := kvs (fun x : Nat => .int x) (fun x : Nat => .int (acc.idxOf x : Nat)) acc
theorem kvN_look {acc : List Nat} {x : Nat} : dlook (kvN acc) (.num x) = if x ∈ acc then some (.int (acc.idxOf x : Nat)) else none := by
  rw [kvN, dlook_kvs (kk := fun x : Nat => .num x) fun x _ => hkeyI]
  have : ∀ (f : Nat → D) (l : List Nat), ((l.find? fun y : Nat => decide (NestedKey.num (y : Int) = .num (x : Int))).map f) = if x ∈ l then some (f x) else none := by
    intro f l
    induction l with
    | nil => simp
    | cons y l ih =>
      rw [List.find?_cons]
      by_cases e : x = y
      · subst e
        simp
      · have e2 : decide (NestedKey.num (y : Int) = .num (x : Int)) = false := by
          simp
          omega
        rw [e2]
        simp only
        rw [ih]
        simp [e]
  exact this _ acc
theorem kvN_len {acc : List Nat} : (kvN acc).length = acc.length := kvs_len
theorem kvN_put {acc : List Nat} {x : Nat} (h : x ∉ acc) : dput (kvN acc) (.int x) (.num x) (.int (acc.length : Nat)) = kvN (acc ++ [x]) := by
  rw [dput_new (by rw [kvN_look, if_neg h])]
  have e : ∀ y ∈ acc, (acc ++ [x]).idxOf y = acc.idxOf y := fun y hy => by rw [List.idxOf_append, if_pos hy]
  have e2 : (acc ++ [x]).idxOf x = acc.length := by
    rw [List.idxOf_append, if_neg h]
    simp
  simp only [kvN, kvs, List.map_append, List.map_cons, List.map_nil, e2]
  congr 1
  exact List.map_congr_left fun y hy => by rw [e y hy]
def ocl (st : List Tm) : List Nat := st.flatMap occ
theorem tidy_loop {m : Nat} {ih : IH} {t0 : Option D} : ∀ (N : Nat) (st : List Tm) (acc : List Nat) (x : Option D), ssz st < N → acc.length + ssz st ≤ 1000000 →
    ∃ x', whileN (tTru (xVar 2)) (ySeq (ySet 3 (xMethC isLstH fPop (xVar 2) xNil)) (yIf (tVal (xArgs ((progs (m + 1)).1 .is_variable) (xCons (xVar 3) xNil))) (yExpr (xMethC isDctA fSetd (xVar 1) (xCons (xVar 3) (xCons (xArgs fLen (xCons (xVar 1) xNil)) xNil)))) (yExpr (xMethC isLstH fExtend (xVar 2) (xCons (xRev (xSl (xVar 3) (xPart (xC (.int 1))) xNoPart)) xNil)))))
      N [t0, some (.obj ih.length), some (.obj (ih.length + 1)), x] (ih ++ [.dct (kvN acc), .lst (st.map enc).reverse]) = some (.nx, [t0, some (.obj ih.length), some (.obj (ih.length + 1)), x'], ih ++ [.dct (kvN (dd acc (ocl st))), .lst []])
  | 0, _, _, _, h, _ => by omega
  | N + 1, [], acc, x, h, h2 => by
    refine ⟨x, ?_⟩
    rw [whileN]
    simp [ocl, dd]
  | N + 1, t :: st, acc, x, h, h2 => by
    have hl := ssz_len st
    simp only [ssz, List.map_cons, List.sum_cons] at h h2 hl
    have hp := size_pos t
    rw [whileN]
    cases t with
    | v n =>
      have hd := dd_len (xs := [n]) (acc := acc)
      simp only [size, List.length_cons, List.length_nil] at h h2 hd
      obtain ⟨x', e⟩ := tidy_loop (m := m) (ih := ih) (t0 := t0) N st (dd acc [n]) (some (.int n)) (by simp only [ssz]; omega) (by simp only [ssz]; omega)
      refine ⟨x', ?_⟩
      have e2 : dd acc (ocl (.v n :: st)) = dd (dd acc [n]) (ocl st) := by
        rw [← dd_append]
        rfl
      rw [e2, ← e]
      have h3 : (kvN acc).length < sizeLine := by
        rw [kvN_len, sz]
        omega
      have h4 : (kvN acc).length = acc.length := kvN_len
      by_cases hn : n ∈ acc
      · simp [is_variable_int, enc, kvN_look, hn, h3, dd]
      · have h5 : acc.length < sizeLine := by
          rw [sz]
          omega
        simp [is_variable_int, enc, kvN_look, hn, h5, h4, kvN_put hn, dd]
    | k c =>
      obtain ⟨x', e⟩ := tidy_loop (m := m) (ih := ih) (t0 := t0) N st acc (some (enc (.k c))) (by simp only [ssz]; omega) (by simp only [ssz]; omega)
      refine ⟨x', ?_⟩
      have e2 : dd acc (ocl (.k c :: st)) = dd acc (ocl st) := rfl
      rw [e2, ← e]
      have h3 : st.length ≤ sizeLine := by
        rw [sz]
        omega
      simp [is_variable_tup, enc, h3]
    | u c s =>
      simp only [size] at h h2
      obtain ⟨x', e⟩ := tidy_loop (m := m) (ih := ih) (t0 := t0) N (s :: st) acc (some (enc (.u c s))) (by simp only [ssz, List.map_cons, List.sum_cons]; omega) (by simp only [ssz, List.map_cons, List.sum_cons]; omega)
      refine ⟨x', ?_⟩
      have e2 : dd acc (ocl (.u c s :: st)) = dd acc (ocl (s :: st)) := rfl
      rw [e2, ← e]
      have h3 : st.length + 1 ≤ sizeLine := by
        rw [sz]
        omega
      simp [is_variable_tup, enc, h3]
    | b c s s' =>
      simp only [size] at h h2
      obtain ⟨x', e⟩ := tidy_loop (m := m) (ih := ih) (t0 := t0) N (s :: s' :: st) acc (some (enc (.b c s s'))) (by simp only [ssz, List.map_cons, List.sum_cons]; omega) (by simp only [ssz, List.map_cons, List.sum_cons]; omega)
      refine ⟨x', ?_⟩
      have e2 : dd acc (ocl (.b c s s' :: st)) = dd acc (ocl (s :: s' :: st)) := by
        simp [ocl, occ]
      rw [e2, ← e]
      have h3 : st.length + 2 ≤ sizeLine := by
        rw [sz]
        omega
      simp [is_variable_tup, enc, h3]
theorem tidy_ok {m : Nat} {t : Tm} {ih : IH} (h : size t ≤ 1000000) (hm : t.dep + 3 ≤ m) : (progs m).1 .tidy_term [enc t] ih = some (enc (tidy t), ih) := by
  obtain ⟨m, rfl⟩ : ∃ j, m = j + 2 := ⟨m - 2, by omega⟩
  rw [pg, body, r_tidy_term]
  obtain ⟨x', e⟩ := tidy_loop (m := m) (ih := ih) (t0 := some (enc t)) (size t + 1) [t] [] none (by simp [ssz]) (by simpa [ssz] using h)
  refine pureM_of (r := [.dct (kvN (dd [] (ocl [t]))), .lst []]) ?_ (clean_enc _)
  rw [bodyM_ap]
  have e2 := yWhile_of e
  have e0 : kvN [] = [] := rfl
  have e4 : ocl [t] = occ t := by simp [ocl]
  rw [e0, e4] at e2
  rw [e4]
  simp at e2
  have e5 := put_in_ok (d := .obj ih.length) (ih := ih ++ [.dct (kvN (dd [] (occ t))), .lst []]) (kv := kvN (dd [] (occ t))) (f := fun x => if x ∈ dd [] (occ t) then some (.v ((dd [] (occ t)).idxOf x)) else none) (by simp) (t := t) (m := m + 1) (fun x hx => by
    rw [kvN_look]
    by_cases q : x ∈ dd [] (occ t)
    · simp [q, enc]
    · simp [q]) (by omega)
  have e6 : sb (fun x => ((if x ∈ dd [] (occ t) then some (Tm.v ((dd [] (occ t)).idxOf x)) else none).getD (.v x))) t = tidy t := by
    rw [tidy]
    refine sb_congr fun x hx => ?_
    have q : x ∈ dd [] (occ t) := dd_mem.mpr (.inr hx)
    simp [q, ix]
  rw [e6] at e5
  simp [sz, e2, e5]
theorem is_variant_ok {m : Nat} {s t : Tm} {ih : IH} (h : size s ≤ 1000000) (h' : size t ≤ 1000000) (hm : s.dep + 4 ≤ m) (hm' : t.dep + 4 ≤ m) (hs : s.dep ≤ 64) (ht : t.dep ≤ 64) : (progs m).1 .is_variant [enc s, enc t] ih = some (.bl (decide (tidy s = tidy t)), ih) := by
  obtain ⟨m, rfl⟩ : ∃ j, m = j + 1 := ⟨m - 1, by omega⟩
  rw [pg, body, r_is_variant]
  refine pureM_of (r := []) ?_ rfl
  have d1 : (tidy s).dep ≤ 64 := Nat.le_trans (tidy_le s).dep hs
  have d2 : (tidy t).dep ≤ 64 := Nat.le_trans (tidy_le t).dep ht
  rw [bodyM_ap]
  simp [tidy_ok h (m := m) (by omega), tidy_ok h' (m := m) (by omega), fEq_enc d1 d2]
/-! joint_term -/
def kvP (acc : PL) : List (D × D) := kvs (fun p : Tm × Tm => .tup [enc p.1, enc p.2]) (fun p : Tm × Tm => .int (acc.idxOf p : Nat)) acc
def SmallP (acc : PL) : Prop := ∀ p ∈ acc, p.1.dep ≤ 7 ∧ p.2.dep ≤ 7
theorem kvP_len {acc : PL} : (kvP acc).length = acc.length := kvs_len
theorem kvP_look {acc : PL} (h : SmallP acc) {s t : Tm} : dlook (kvP acc) (.tup [key s, key t]) = if (s, t) ∈ acc then some (.int (acc.idxOf (s, t) : Nat)) else none := by
  rw [kvP, dlook_kvs (kk := fun p : Tm × Tm => .tup [key p.1, key p.2]) fun p hp => hkey_pair (h p hp).1 (h p hp).2]
  have : ∀ (f : Tm × Tm → D) (l : PL), ((l.find? fun p => decide (NestedKey.tup [key p.1, key p.2] = .tup [key s, key t])).map f) = if (s, t) ∈ l then some (f (s, t)) else none := by
    intro f l
    induction l with
    | nil => simp
    | cons p l ih =>
      rw [List.find?_cons]
      by_cases e : (s, t) = p
      · subst e
        simp
      · have e2 : decide (NestedKey.tup [key p.1, key p.2] = .tup [key s, key t]) = false := by
          simp
          intro h1 h2
          exact e (by rw [← key_inj h1, ← key_inj h2])
        rw [e2]
        simp only
        rw [ih]
        simp [e]
  exact this _ acc
theorem kvP_put {acc : PL} (hs : SmallP acc) {s t : Tm} (h : (s, t) ∉ acc) : dput (kvP acc) (.tup [enc s, enc t]) (.tup [key s, key t]) (.int (acc.length : Nat)) = kvP (acc ++ [(s, t)]) := by
  rw [dput_new (by rw [kvP_look hs, if_neg h])]
  have e : ∀ y ∈ acc, (acc ++ [(s, t)]).idxOf y = acc.idxOf y := fun y hy => by rw [List.idxOf_append, if_pos hy]
  have e2 : (acc ++ [(s, t)]).idxOf (s, t) = acc.length := by
    rw [List.idxOf_append, if_neg h]
    simp
  simp only [kvP, kvs, List.map_append, List.map_cons, List.map_nil, e2]
  congr 1
  exact List.map_congr_left fun y hy => by rw [e y hy]
theorem jn_small {s t : Tm} {acc : PL} (h : SmallP acc) (hs : s.dep ≤ 7) (ht : t.dep ≤ 7) : SmallP (jn s t acc).2 := by
  unfold jn
  split
  · exact h
  · intro p hp
    rcases List.mem_append.mp hp with q | q
    · exact h p q
    · simp at q
      subst q
      exact ⟨hs, ht⟩
theorem jn_len (s t : Tm) (acc : PL) : (jn s t acc).2.length ≤ acc.length + 1 := by
  unfold jn
  split
  · exact Nat.le_succ _
  · simp
end Gh.K67
end
section
set_option Elab.async false
set_option linter.all false
set_option maxRecDepth 100000
/-! k67: common forms. -/
namespace Gh.K67
open PySem PySem.Spec PyProof.Rows L2 Tm
theorem jn_run {n : Nat} {s t : Tm} {ih : IH} {acc : PL} (hn : ih[n]? = some (.dct (kvP acc))) (ha : SmallP acc) (hs : s.dep ≤ 7) (ht : t.dep ≤ 7) (hz : acc.length + 1 ≤ 1000000) :
    fSetd (.obj n) [.tup [enc s, enc t], .int (acc.length : Nat)] ih = some (enc (jn s t acc).1, ih.set n (.dct (kvP (jn s t acc).2))) := by
  have h5 : (kvP acc).length < sizeLine := by
    rw [kvP_len, sz]
    omega
  unfold jn
  by_cases e : (s, t) ∈ acc
  · simp [hn, hkey_pair hs ht, kvP_look ha, e, enc, set_same hn]
  · simp [hn, hkey_pair hs ht, kvP_look ha, e, enc, h5, kvP_put ha e]
structure JtOk (n m : Nat) (s t : Tm) (ih : IH) (acc : PL) : Prop where
  run : (progs m).1 .joint_term [enc s, enc t, .obj n] ih = some (enc (jt s t acc).1, ih.set n (.dct (kvP (jt s t acc).2)))
  small : SmallP (jt s t acc).2
  len : (jt s t acc).2.length ≤ acc.length + size s
theorem jt_of_jn {n m : Nat} {s t : Tm} {ih : IH} {acc : PL} (e : jt s t acc = jn s t acc) (ha : SmallP acc) (hs : s.dep ≤ 7) (ht : t.dep ≤ 7) (h : (progs m).1 .joint_term [enc s, enc t, .obj n] ih = some (enc (jn s t acc).1, ih.set n (.dct (kvP (jn s t acc).2)))) : JtOk n m s t ih acc := by
  refine ⟨by rw [e]; exact h, by rw [e]; exact jn_small ha hs ht, ?_⟩
  rw [e]
  have := jn_len s t acc
  have := size_pos s
  omega
theorem joint_ok {n : Nat} : ∀ {s t : Tm} {m : Nat} {ih : IH} {acc : PL}, ih[n]? = some (.dct (kvP acc)) → SmallP acc → s.dep ≤ 7 → t.dep ≤ 7 → s.dep + 2 ≤ m → acc.length + size s ≤ 1000000 → JtOk n m s t ih acc
  | .v x, t, m + 2, ih, acc, hn, ha, hs, ht, h, hz => by
    have j := jn_run (s := .v x) (t := t) hn ha hs ht hz
    have hl : (kvP acc).length = acc.length := kvP_len
    refine jt_of_jn (by cases t <;> rfl) ha hs ht ?_
    rw [pg, body, r_joint_term, bodyM_ap]
    simp [-fSetd_ap, is_variable_ok, isV, hn, hl, sz, j]
  | .k c, t, m + 2, ih, acc, hn, ha, hs, ht, h, hz => by
    have j := jn_run (s := .k c) (t := t) hn ha hs ht (by simpa [size] using hz)
    have hl : (kvP acc).length = acc.length := kvP_len
    cases t with
    | k c' =>
      by_cases e : c = c'
      · refine ⟨?_, by simpa [jt, e] using ha, by simp [jt, e, size]⟩
        rw [pg, body, r_joint_term, bodyM_ap]
        simp [is_variable_tup, isV, enc, e, sz, jt, set_same hn]
      · refine jt_of_jn (by simp [jt, e]) ha hs ht ?_
        simp only [enc] at j
        rw [pg, body, r_joint_term, bodyM_ap]
        simp [-fSetd_ap, is_variable_tup, isV, hn, hl, sz, j, enc, e]
    | _ =>
      refine jt_of_jn rfl ha hs ht ?_
      simp only [enc] at j
      rw [pg, body, r_joint_term, bodyM_ap]
      simp [-fSetd_ap, is_variable_tup, is_variable_int, isV, hn, hl, sz, j, enc]
  | .u c s, t, m + 2, ih, acc, hn, ha, hs, ht, h, hz => by
    have hp := size_pos s
    simp only [size] at hz
    have j := jn_run (s := .u c s) (t := t) hn ha hs ht (by omega)
    have hl : (kvP acc).length = acc.length := kvP_len
    cases t with
    | u c' t =>
      by_cases e : c = c'
      · simp only [dep] at h hs ht
        have a := joint_ok (n := n) (s := s) (t := t) (m := m + 1) hn ha (by omega) (by omega) (by omega) (by omega)
        refine ⟨?_, by simpa [jt, e] using a.small, ?_⟩
        · rw [pg, body, r_joint_term, bodyM_ap]
          simp [is_variable_tup, isV, enc, e, sz, jt, a.run]
        · have := a.len
          simp only [jt, e, if_true, size]
          omega
      · refine jt_of_jn (by simp [jt, e]) ha hs ht ?_
        simp only [enc] at j
        rw [pg, body, r_joint_term, bodyM_ap]
        simp [-fSetd_ap, is_variable_tup, isV, hn, hl, sz, j, enc, e]
    | _ =>
      refine jt_of_jn rfl ha hs ht ?_
      simp only [enc] at j
      rw [pg, body, r_joint_term, bodyM_ap]
      simp [-fSetd_ap, is_variable_tup, is_variable_int, isV, hn, hl, sz, j, enc]
  | .b c s s', t, m + 2, ih, acc, hn, ha, hs, ht, h, hz => by
    have hp := size_pos s
    simp only [size] at hz
    have j := jn_run (s := .b c s s') (t := t) hn ha hs ht (by omega)
    have hl : (kvP acc).length = acc.length := kvP_len
    cases t with
    | b c' t t' =>
      by_cases e : c = c'
      · simp only [dep] at h hs ht
        have a := joint_ok (n := n) (s := s) (t := t) (m := m + 1) hn ha (by omega) (by omega) (by omega) (by omega)
        have q := a.len
        have b := joint_ok (n := n) (s := s') (t := t') (m := m + 1) (get_set (y := .dct (kvP (jt s t acc).2)) hn) a.small (by omega) (by omega) (by omega) (by omega)
        refine ⟨?_, by simpa [jt, e] using b.small, ?_⟩
        · rw [pg, body, r_joint_term, bodyM_ap]
          simp [is_variable_tup, isV, enc, e, sz, jt, a.run, b.run]
        · have := b.len
          simp only [jt, e, if_true, size]
          omega
      · refine jt_of_jn (by simp [jt, e]) ha hs ht ?_
        simp only [enc] at j
        rw [pg, body, r_joint_term, bodyM_ap]
        simp [-fSetd_ap, is_variable_tup, isV, hn, hl, sz, j, enc, e]
    | _ =>
      refine jt_of_jn rfl ha hs ht ?_
      simp only [enc] at j
      rw [pg, body, r_joint_term, bodyM_ap]
      simp [-fSetd_ap, is_variable_tup, is_variable_int, isV, hn, hl, sz, j, enc]
theorem jn_nodup {s t : Tm} {acc : PL} (h : acc.Nodup) : (jn s t acc).2.Nodup := by
  unfold jn
  split
  · exact h
  · rename_i q
    rw [List.nodup_append]
    exact ⟨h, by simp, fun a ha b hb => by simp at hb; subst hb; exact fun e => q (e ▸ ha)⟩
theorem jt_nodup : ∀ {s t : Tm} {acc : PL}, acc.Nodup → (jt s t acc).2.Nodup
  | .v n, t, acc, h => by simp only [jt]; exact jn_nodup h
  | .k c, t, acc, h => by
    cases t <;> simp only [jt] <;> first | exact jn_nodup h | skip
    split
    · exact h
    · exact jn_nodup h
  | .u c s, t, acc, h => by
    cases t <;> simp only [jt] <;> first | exact jn_nodup h | skip
    split
    · exact jt_nodup h
    · exact jn_nodup h
  | .b c s s', t, acc, h => by
    cases t <;> simp only [jt] <;> first | exact jn_nodup h | skip
    split
    · exact jt_nodup (jt_nodup h)
    · exact jn_nodup h
/-- the values of one side -/
def side (f : Tm × Tm → Tm) (acc : PL) : AL := acc.map fun p => (acc.idxOf p, f p)
theorem side_mem {f : Tm × Tm → Tm} {acc : PL} (h : acc.Nodup) {i : Nat} {t : Tm} : (i, t) ∈ side f acc ↔ ∃ p, acc[i]? = some p ∧ f p = t := by
  unfold side
  rw [List.mem_map]
  constructor
  · rintro ⟨p, hp, e⟩
    cases e
    exact ⟨p, get_ix hp, rfl⟩
  · rintro ⟨p, hp, rfl⟩
    refine ⟨p, List.mem_of_getElem? hp, ?_⟩
    congr 1
    obtain ⟨h1, rfl⟩ := List.getElem?_eq_some_iff.mp hp
    exact List.Nodup.idxOf_getElem h i h1
theorem side_keyed {f : Tm × Tm → Tm} {acc : PL} (h : acc.Nodup) : Tm.Keyed (side f acc) := by
  unfold Tm.Keyed side
  rw [List.map_map]
  refine List.pairwise_map.mpr ((List.pairwise_iff_forall_sublist).mpr fun {a b} hab e => ?_)
  have hne := (List.pairwise_iff_forall_sublist.mp h) hab
  have ha : a ∈ acc := hab.subset (by simp)
  have hb : b ∈ acc := hab.subset (by simp)
  have h1 := get_ix ha
  have h2 := get_ix hb
  simp only [Function.comp] at e
  rw [e, h2] at h1
  exact hne (Option.some.inj h1).symm
theorem side_lookup {f : Tm × Tm → Tm} {acc : PL} (h : acc.Nodup) {i : Nat} : (side f acc).lookup i = (acc[i]?).map f := by
  apply Option.ext
  intro t
  rw [lookup_iff (side_keyed h), side_mem h]
  simp
theorem fn_side1 {acc : PL} (h : acc.Nodup) : fn (srt (side (·.1) acc)) = lf acc := by
  funext i
  rw [fn, srt_lookup (side_keyed h), side_lookup h, lf]
theorem fn_side2 {acc : PL} (h : acc.Nodup) : fn (srt (side (·.2) acc)) = rf acc := by
  funext i
  rw [fn, srt_lookup (side_keyed h), side_lookup h, rf]
theorem gen_loop {ih : IH} {ρ : Env} {n j : Nat} {acc : PL} {f : Tm × Tm → Tm} (hr : ρ.length = 8) (hn : ih[n]? = some (.lck (kvP acc))) (hj : ∀ p : Tm × Tm, [enc p.1, enc p.2][j]? = some (enc (f p))) (hz : acc.length ≤ 1000000) (hd : acc.Nodup) :
    ∀ (l : PL) (done : PL), done ++ l = acc → loopC (fun ih => decide (ih[n]? = some (.lck (kvP acc)))) (gTp 2 (gsCons (gNm 6) (gsCons (gNm 7) gsNil))) tTrue (emD (xVar 7) (xBin fIx (xVar 6) (xC (.int (j : Nat))))) ρ ((kvs (fun p : Tm × Tm => .tup [enc p.1, enc p.2]) (fun p : Tm × Tm => .int (acc.idxOf p : Nat)) l).map fun p => .tup [p.1, p.2]) ih (encA (done.map fun p => (acc.idxOf p, f p))) = some (encA (side f acc), ih)
  | [], done, e => by
    simp at e
    subst e
    simp [kvs, hn, side]
  | p :: l, done, e => by
    have g := gen_loop hr hn hj hz hd l (done ++ [p]) (by simpa using e)
    have hl : (encA (done.map fun p => (acc.idxOf p, f p))).length < sizeLine := by
      rw [encA_len, sz, List.length_map]
      have := congrArg List.length e
      simp at this
      omega
    have hk : (done.map fun p => (acc.idxOf p, f p)).lookup (acc.idxOf p) = none := by
      rw [Option.eq_none_iff_forall_ne_some]
      intro t ht
      have hs : Tm.Keyed (side f acc) := side_keyed hd
      rw [← e, side, List.map_append, List.map_cons] at hs
      rw [e] at hs
      unfold Tm.Keyed at hs
      rw [List.map_append, List.nodup_append] at hs
      have hk1 : Tm.Keyed (done.map fun p => (acc.idxOf p, f p)) := hs.1
      have hm := (lookup_iff hk1).mp ht
      exact hs.2.2 _ (List.mem_map.mpr ⟨_, hm, rfl⟩) _ (by simp) rfl
    simp only [kvs, List.map_cons, loopC_cons, hn, decide_true, if_true]
    have h6 : 6 < ρ.length := by omega
    have h7 : 7 < ρ.length := by omega
    simp [h6, h7, hj p, hl, encA_new hk]
    rw [List.map_append] at g
    simpa [kvs] using g
theorem generalized_ok {m : Nat} {s t : Tm} {ih : IH} (hs : s.dep ≤ 7) (ht : t.dep ≤ 7) (hm : s.dep + 3 ≤ m) (hz : size s ≤ 1000000) :
    (progs m).1 .generalized [enc s, enc t] ih = some (.tup [enc (lgg s t), .tupx (prD (srt (side (·.1) (lgn s t)))), .tupx (prD (srt (side (·.2) (lgn s t))))], ih) := by
  obtain ⟨m, rfl⟩ : ∃ j, m = j + 2 := ⟨m - 2, by omega⟩
  have a := joint_ok (n := ih.length) (s := s) (t := t) (m := m + 1) (ih := ih ++ [.dct []]) (acc := []) (by simp; rfl) (by intro p hp; simp at hp) hs ht (by omega) (by simpa using hz)
  have a1 := a.run
  have hd : (lgn s t).Nodup := jt_nodup List.nodup_nil
  have hl : (lgn s t).length ≤ 1000000 := by
    have := a.len
    simp at this
    show (jt s t []).2.length ≤ _
    omega
  simp at a1
  rw [pg, body, r_generalized]
  refine pureM_of (r := [.dct (kvP (lgn s t))]) ?_ ?_
  · rw [bodyM_ap]
    have g1 := fun ρ hr => gen_loop (ih := ih ++ [.lck (kvP (lgn s t))]) (n := ih.length) (ρ := ρ) (f := (·.1)) (j := 0) (acc := lgn s t) hr (by simp) (fun p => rfl) hl hd (lgn s t) [] rfl
    have g2 := fun ρ hr => gen_loop (ih := ih ++ [.lck (kvP (lgn s t))]) (n := ih.length) (ρ := ρ) (f := (·.2)) (j := 1) (acc := lgn s t) hr (by simp) (fun p => rfl) hl hd (lgn s t) [] rfl
    have e0 : encA (List.map (fun p : Tm × Tm => ((lgn s t).idxOf p, p.1)) []) = [] := rfl
    have e1 : encA (List.map (fun p : Tm × Tm => ((lgn s t).idxOf p, p.2)) []) = [] := rfl
    rw [e0] at g1
    rw [e1] at g2
    have p1 := pairs_of_ok (m := m) (d := .dct ((encA (side (·.1) (lgn s t))).map (·.1)) ((encA (side (·.1) (lgn s t))).map (·.2))) (ih := ih ++ [.dct (kvP (lgn s t))]) (l := side (·.1) (lgn s t)) (by rw [getKvs_dct, Tm.zip_fst_snd])
    have p2 := pairs_of_ok (m := m) (d := .dct ((encA (side (·.2) (lgn s t))).map (·.1)) ((encA (side (·.2) (lgn s t))).map (·.2))) (ih := ih ++ [.dct (kvP (lgn s t))]) (l := side (·.2) (lgn s t)) (by rw [getKvs_dct, Tm.zip_fst_snd])
    have e2 : (jt s t []).2 = lgn s t := rfl
    have e3 : (jt s t []).1 = lgg s t := rfl
    rw [e2, e3] at a1
    have e4 : kvs (fun p : Tm × Tm => .tup [enc p.1, enc p.2]) (fun p : Tm × Tm => .int ((lgn s t).idxOf p : Nat)) (lgn s t) = kvP (lgn s t) := rfl
    rw [e4] at g1 g2
    simp only [Int.ofNat_zero, Int.ofNat_one, Int.natCast_zero, Int.cast_ofNat_Int] at g1 g2
    simp [a1, yLk, lckOf, srcItems, g1, g2, p1, p2, sz]
  · simp [clean, cleans, clean_enc, clean_prD]
end Gh.K67
end
section
set_option Elab.async false
set_option linter.all false
set_option maxRecDepth 100000
/-! k67: the closure's object, and note. -/
namespace Gh.K67
open PySem PySem.Spec PyProof.Rows L2 Tm
def encW : Why → D
  | .gv i => .tup [.str "given", .int i]
  | .tn i => .tup [.str "turned", .int i]
  | .pt i j => .tup [.str "parts", .int i, .int j]
  | .ch i j => .tup [.str "chained", .int i, .int j]
def encS (x : Stp) : D := .tup [enc x.1, enc x.2.1, encW x.2.2]
/-- the heap with a closure -/
def hq (ih : IH) (a : List D) (b c : List (D × D)) (R : IH) : IH := ih ++ ([.ins "Closure" [("steps", .obj (ih.length + 1)), ("numbers", .obj (ih.length + 2)), ("lefts", .obj (ih.length + 3))], .lst a, .dct b, .dct c] ++ R)
section
variable {ih : IH} {a a' : List D} {b b' c c' : List (D × D)} {R : IH} {j : Nat} {o : IO}
@[simp] theorem hq_0 : (hq ih a b c R)[ih.length]? = some (.ins "Closure" [("steps", .obj (ih.length + 1)), ("numbers", .obj (ih.length + 2)), ("lefts", .obj (ih.length + 3))]) := by simp [hq]
@[simp] theorem hq_1 : (hq ih a b c R)[ih.length + 1]? = some (.lst a) := by simp [hq]
@[simp] theorem hq_2 : (hq ih a b c R)[ih.length + 2]? = some (.dct b) := by simp [hq]
@[simp] theorem hq_3 : (hq ih a b c R)[ih.length + 3]? = some (.dct c) := by simp [hq]
@[simp] theorem hq_4 : (hq ih a b c R)[ih.length + (4 + j)]? = R[j]? := by
  rw [hq, get_app]
  rw [List.getElem?_append_right (by simp)]
  simp
@[simp] theorem hq_s1 : (hq ih a b c R).set (ih.length + 1) (.lst a') = hq ih a' b c R := by simp [hq]
@[simp] theorem hq_s2 : (hq ih a b c R).set (ih.length + 2) (.dct b') = hq ih a b' c R := by simp [hq]
@[simp] theorem hq_s3 : (hq ih a b c R).set (ih.length + 3) (.dct c') = hq ih a b c' R := by simp [hq]
@[simp] theorem hq_s4 : (hq ih a b c R).set (ih.length + (4 + j)) o = hq ih a b c (R.set j o) := by
  rw [hq, set_app, List.set_append_right _ _ (by simp)]
  simp [hq]
@[simp] theorem hq_len : (hq ih a b c R).length = ih.length + (4 + R.length) := by
  simp [hq]
  omega
@[simp] theorem hq_app : hq ih a b c R ++ [o] = hq ih a b c (R ++ [o]) := by simp [hq]
@[simp] theorem hq_g4 (h : ih.length + (4 + j) < (hq ih a b c R).length) : (hq ih a b c R)[ih.length + (4 + j)]'h = R[j]'(by
    rw [hq_len] at h
    omega) := by
  apply Option.some.inj
  rw [← List.getElem?_eq_getElem, ← List.getElem?_eq_getElem, hq_4]
theorem ne_ns : (Str.ofString "numbers" == Str.ofString "steps") = false := by decide +kernel
theorem ne_ls : (Str.ofString "lefts" == Str.ofString "steps") = false := by decide +kernel
theorem ne_ln : (Str.ofString "lefts" == Str.ofString "numbers") = false := by decide +kernel
@[simp] theorem fld_steps : fFld "Closure" "steps" (.obj ih.length) (hq ih a b c R) = some (.obj (ih.length + 1), hq ih a b c R) := by
  simp [fFld, List.lookup]
@[simp] theorem fld_numbers : fFld "Closure" "numbers" (.obj ih.length) (hq ih a b c R) = some (.obj (ih.length + 2), hq ih a b c R) := by
  simp [fFld, List.lookup, ne_ns]
@[simp] theorem fld_lefts : fFld "Closure" "lefts" (.obj ih.length) (hq ih a b c R) = some (.obj (ih.length + 3), hq ih a b c R) := by
  simp [fFld, List.lookup, ne_ls, ne_ln]
theorem hq_take : (hq ih a b c R).take ih.length = ih := by simp [hq]
end
def intL (l : List Nat) : List D := l.map fun i : Nat => .int i
/-- the dict of lefts -/
def kvL (n : Nat) (L : List (Tm × Nat)) : List (D × D) := kvs (fun p : Tm × Nat => enc p.1) (fun p => .obj (n + (4 + p.2))) L
structure LOk (S : List Stp) (L : List (Tm × Nat)) (R : IH) : Prop where
  get : ∀ t j, (t, j) ∈ L → R[j]? = some (.lst (intL (lefts S t)))
  nd : (L.map (·.1)).Nodup
  ndj : (L.map (·.2)).Nodup
  all : ∀ t, t ∉ L.map (·.1) → lefts S t = []
  dep : ∀ p ∈ L, p.1.dep ≤ 7
  len : L.length ≤ S.length
theorem kvL_look {n : Nat} {L : List (Tm × Nat)} (hd : ∀ p ∈ L, p.1.dep ≤ 7) {t : Tm} : dlook (kvL n L) (key t) = (L.find? fun p => decide (p.1 = t)).map fun p => .obj (n + (4 + p.2)) := by
  rw [kvL, dlook_kvs (kk := fun p : Tm × Nat => key p.1) fun p hp => hkey_enc (Nat.le_trans (hd p hp) (by omega))]
  congr 2
  funext p
  by_cases e : p.1 = t
  · simp [e]
  · have : ¬ key p.1 = key t := fun z => e (key_inj z)
    simp [e, this]
theorem lefts_snoc {S : List Stp} {x : Stp} {t : Tm} : lefts (S ++ [x]) t = if x.1 = t then lefts S t ++ [S.length] else lefts S t := by
  unfold lefts
  rw [List.length_append, List.length_singleton, List.range_succ, List.filter_append]
  have e : (List.range S.length).filter (fun i => decide (((S ++ [x])[i]?).map (·.1) = some t)) = (List.range S.length).filter (fun i => decide ((S[i]?).map (·.1) = some t)) := by
    refine List.filter_congr fun i hi => ?_
    rw [List.getElem?_append_left (List.mem_range.mp hi)]
  rw [e]
  by_cases h : x.1 = t
  · simp [h]
  · simp [h]
theorem lefts_len {S : List Stp} {t : Tm} : (lefts S t).length ≤ S.length := by
  unfold lefts
  have := List.length_filter_le (fun i => decide ((S[i]?).map (·.1) = some t)) (List.range S.length)
  simpa using this
theorem find_mem {L : List (Tm × Nat)} {t : Tm} {p : Tm × Nat} (h : L.find? (fun p => decide (p.1 = t)) = some p) : p ∈ L ∧ p.1 = t := by
  have h1 := List.mem_of_find?_eq_some h
  have h2 := List.find?_some h
  exact ⟨h1, by simpa using h2⟩
theorem find_none {L : List (Tm × Nat)} {t : Tm} (h : L.find? (fun p => decide (p.1 = t)) = none) : t ∉ L.map (·.1) := by
  intro hm
  obtain ⟨p, hp, e⟩ := List.mem_map.mp hm
  have := List.find?_eq_none.mp h p hp
  simp [e] at this
theorem intL_app {l : List Nat} {i : Nat} : intL (l ++ [i]) = intL l ++ [.int i] := by simp [intL]
/-- the closure's heap -/
def hc (ih : IH) (S : List Stp) (L : List (Tm × Nat)) (R : IH) : IH := hq ih (S.map encS) (kvP (prs S)) (kvL ih.length L) R
theorem note_ok {m : Nat} {ih : IH} {S : List Stp} {L : List (Tm × Nat)} {R : IH} {s t : Tm} {w : Why} (hL : LOk S L R) (hs : s.dep ≤ 7) (ht : t.dep ≤ 7) (hS : SmallP (prs S)) (hz : S.length < 1000000) :
    ∃ L' R', LOk (nt S s t w) L' R' ∧ (progs (m + 1)).1 .Closure_note [.obj ih.length, enc s, enc t, encW w] (hc ih S L R) = some (.non, hc ih (nt S s t w) L' R') := by
  rw [pg, body, r_Closure_note, bodyM_ap]
  unfold nt
  by_cases e1 : (s, t) ∈ prs S
  · refine ⟨L, R, by simpa [e1] using hL, ?_⟩
    simp [hc, hkey_pair hs ht, kvP_look hS, e1, sz]
  · by_cases e2 : s = t
    · refine ⟨L, R, by simpa [e2] using hL, ?_⟩
      subst e2
      simp [hc, hkey_pair hs ht, kvP_look hS, e1, sz, fNe_enc (s := s) (t := s) (by omega) (by omega)]
    · have hk : hkey (enc s) = some (key s) := hkey_enc (by omega)
      have hpl : (prs S).length = S.length := by simp [prs]
      have hz1 : (kvP (prs S)).length < 16777216 := by
        rw [kvP_len, hpl]
        omega
      have hz2 : S.length < 16777216 := by omega
      have ep : prs (S ++ [(s, t, w)]) = prs S ++ [(s, t)] := by simp [prs]
      have ek := kvP_put hS e1
      rw [hpl] at ek
      have hll := lefts_len (S := S) (t := s)
      have hl2 : (intL (lefts S s)).length < 16777216 := by
        simp [intL]
        omega
      have hl3 : (kvL ih.length L).length < 16777216 := by
        rw [kvL, kvs_len]
        have := hL.len
        omega
      simp only [e1, e2, or_false, if_false]
      cases ef : L.find? (fun p => decide (p.1 = s)) with
      | some p =>
        obtain ⟨hp1, hp2⟩ := find_mem ef
        obtain ⟨s', j⟩ := p
        simp only at hp2
        subst hp2
        have hj := hL.get _ _ hp1
        have hjl : j < R.length := (List.getElem?_eq_some_iff.mp hj).1
        refine ⟨L, (R ++ [IO.lst []]).set j (.lst (intL (lefts S s' ++ [S.length]))), ⟨fun t' j' h' => ?_, hL.nd, hL.ndj, fun t' h' => ?_, hL.dep, ?_⟩, ?_⟩
        · rw [lefts_snoc]
          by_cases et : s' = t'
          · subst et
            have : j' = j := by
              have a1 := List.mem_iff_getElem?.mp h'
              have a2 := List.mem_iff_getElem?.mp hp1
              obtain ⟨x, hx⟩ := a1
              obtain ⟨y, hy⟩ := a2
              have hx1 : (L.map (·.1))[x]? = some s' := by simp [hx]
              have hy1 : (L.map (·.1))[y]? = some s' := by simp [hy]
              have hxy : x = y := (List.getElem?_inj (List.getElem?_eq_some_iff.mp hx1).1 hL.nd).mp (hx1.trans hy1.symm)
              subst hxy
              rw [hx] at hy
              exact (Prod.mk.inj (Option.some.inj hy)).2
            subst this
            simp [hjl, Nat.lt_succ_of_lt hjl]
          · have hjj : j ≠ j' := by
              intro e
              subst e
              obtain ⟨x, hx⟩ := List.mem_iff_getElem?.mp h'
              obtain ⟨y, hy⟩ := List.mem_iff_getElem?.mp hp1
              have hx1 : (L.map (·.2))[x]? = some j := by simp [hx]
              have hy1 : (L.map (·.2))[y]? = some j := by simp [hy]
              have hxy : x = y := (List.getElem?_inj (List.getElem?_eq_some_iff.mp hx1).1 hL.ndj).mp (hx1.trans hy1.symm)
              subst hxy
              rw [hx] at hy
              exact et (Prod.mk.inj (Option.some.inj hy)).1.symm
            have h2 := hL.get t' j' h'
            rw [get_set_ne hjj, List.getElem?_append_left (List.getElem?_eq_some_iff.mp h2).1, h2]
            simp [et]
        · rw [lefts_snoc]
          have : ¬ s' = t' := fun e => h' (List.mem_map.mpr ⟨_, hp1, e⟩)
          simp only [this, if_false]
          exact hL.all t' h'
        · have := hL.len
          simp
          omega
        · simp [hc, hkey_pair hs ht, kvP_look hS, e1, sz, fNe_enc (s := s') (t := t) (by omega) (by omega), e2, hz1, hz2, ek, ep, hk, kvL_look hL.dep, ef, hj, List.getElem?_append_left hjl, hl2, intL_app, encS]
      | none =>
        have hnone := find_none ef
        have hempty := hL.all s hnone
        refine ⟨L ++ [(s, R.length)], R ++ [.lst [.int (S.length : Nat)]], ⟨fun t' j' h' => ?_, ?_, ?_, fun t' h' => ?_, ?_, ?_⟩, ?_⟩
        · rw [lefts_snoc]
          rcases List.mem_append.mp h' with q | q
          · have : ¬ s = t' := fun e => hnone (List.mem_map.mpr ⟨_, q, e.symm⟩)
            have h2 := hL.get t' j' q
            rw [List.getElem?_append_left (List.getElem?_eq_some_iff.mp h2).1, h2]
            simp [this]
          · simp at q
            obtain ⟨rfl, rfl⟩ := q
            simp [hempty, intL]
        · rw [List.map_append, List.nodup_append]
          refine ⟨hL.nd, by simp, fun x hx y hy e => ?_⟩
          simp at hy
          subst hy
          subst e
          exact hnone hx
        · rw [List.map_append, List.nodup_append]
          refine ⟨hL.ndj, by simp, fun x hx y hy e => ?_⟩
          simp at hy
          subst hy
          subst e
          obtain ⟨p, hp, e⟩ := List.mem_map.mp hx
          have := hL.get p.1 p.2 hp
          have := (List.getElem?_eq_some_iff.mp this).1
          omega
        · rw [lefts_snoc]
          simp at h'
          have : ¬ s = t' := fun e => h'.2 e.symm
          simp only [this, if_false]
          exact hL.all t' (by simpa using h'.1)
        · intro p hp
          rcases List.mem_append.mp hp with q | q
          · exact hL.dep p q
          · simp at q
            subst q
            exact hs
        · have := hL.len
          simp
          omega
        · have ekl : dput (kvL ih.length L) (enc s) (key s) (.obj (ih.length + (4 + R.length))) = kvL ih.length (L ++ [(s, R.length)]) := by
            rw [dput_new (by rw [kvL_look hL.dep, ef]; rfl)]
            simp [kvL, kvs]
          simp [hc, hkey_pair hs ht, kvP_look hS, e1, sz, fNe_enc (s := s) (t := t) (by omega) (by omega), e2, hz1, hz2, ek, ep, hk, kvL_look hL.dep, ef, ekl, hl3, encS]
end Gh.K67
end
section
set_option Elab.async false
set_option linter.all false
set_option maxRecDepth 100000
/-! k67: the closure goes on. -/
namespace Gh.K67
open PySem PySem.Spec PyProof.Rows L2 Tm
theorem lkn {nm : Str} {x y z : D} (h1 : (nm == ("steps" : Str)) = false) (h2 : (nm == ("numbers" : Str)) = false) (h3 : (nm == ("lefts" : Str)) = false) : List.lookup nm [(Str.ofString "steps", x), (Str.ofString "numbers", y), (Str.ofString "lefts", z)] = none := by
  simp only [List.lookup, h1, h2, h3]
@[simp] theorem lk_note {x y z : D} : List.lookup (Str.ofString "note") [(Str.ofString "steps", x), (Str.ofString "numbers", y), (Str.ofString "lefts", z)] = none := lkn (by decide +kernel) (by decide +kernel) (by decide +kernel)
@[simp] theorem lk_go_on {x y z : D} : List.lookup (Str.ofString "go_on") [(Str.ofString "steps", x), (Str.ofString "numbers", y), (Str.ofString "lefts", z)] = none := lkn (by decide +kernel) (by decide +kernel) (by decide +kernel)
@[simp] theorem lk_clash {x y z : D} : List.lookup (Str.ofString "clash") [(Str.ofString "steps", x), (Str.ofString "numbers", y), (Str.ofString "lefts", z)] = none := lkn (by decide +kernel) (by decide +kernel) (by decide +kernel)
@[simp] theorem lk_circle {x y z : D} : List.lookup (Str.ofString "circle") [(Str.ofString "steps", x), (Str.ofString "numbers", y), (Str.ofString "lefts", z)] = none := lkn (by decide +kernel) (by decide +kernel) (by decide +kernel)
@[simp] theorem lk_edges {x y z : D} : List.lookup (Str.ofString "edges") [(Str.ofString "steps", x), (Str.ofString "numbers", y), (Str.ofString "lefts", z)] = none := lkn (by decide +kernel) (by decide +kernel) (by decide +kernel)
@[simp] theorem lk_value {x y z : D} : List.lookup (Str.ofString "value") [(Str.ofString "steps", x), (Str.ofString "numbers", y), (Str.ofString "lefts", z)] = none := lkn (by decide +kernel) (by decide +kernel) (by decide +kernel)
@[simp] theorem lk_filled {x y z : D} : List.lookup (Str.ofString "filled") [(Str.ofString "steps", x), (Str.ofString "numbers", y), (Str.ofString "lefts", z)] = none := lkn (by decide +kernel) (by decide +kernel) (by decide +kernel)
@[simp] theorem fIx_hq1 {ih : IH} {a : List D} {b c : List (D × D)} {R : IH} {i : Int} : fIx (.obj (ih.length + 1)) (.int i) (hq ih a b c R) = (atD a i).map fun d => (d, hq ih a b c R) := fIx_objL hq_1
structure Cx (U : List Tm) : Prop where
  dep : ∀ t ∈ U, t.dep ≤ 7
  sz : U.length * U.length < 1000000
  cl : ∀ t ∈ U, ∀ a ∈ args t, a ∈ U
theorem Good.small {U : List Tm} {S : List Stp} (c : Cx U) (g : Good U S) : SmallP (prs S) := by
  intro p hp
  obtain ⟨x, hx, rfl⟩ := List.mem_map.mp hp
  exact ⟨c.dep _ (g.inU x hx).1, c.dep _ (g.inU x hx).2⟩
theorem note_ok' {m : Nat} {ih : IH} {U : List Tm} {S : List Stp} {L : List (Tm × Nat)} {R : IH} {s t : Tm} {w : Why} (c : Cx U) (g : Good U S) (hL : LOk S L R) (hs : s ∈ U) (ht : t ∈ U) :
    ∃ L' R', LOk (nt S s t w) L' R' ∧ (progs (m + 1)).1 .Closure_note [.obj ih.length, enc s, enc t, encW w] (hc ih S L R) = some (.non, hc ih (nt S s t w) L' R') :=
  note_ok hL (c.dep s hs) (c.dep t ht) (Good.small c g) (Nat.lt_of_le_of_lt g.len c.sz)
/-- the heap, the row of names -/
abbrev gρ (ih : IH) (i : Nat) (s t : Tm) (w : Why) (x y : Option D) : Env := [some (.obj ih.length), some (.int i), some (enc s), some (enc t), some (encW w), x, y]
theorem get_encS {S : List Stp} {o : Nat} {y : Stp} (h : S[o]? = some y) : atD (S.map encS) (o : Int) = some (encS y) := by
  rw [atD_nat]
  simp [h]
theorem lefts_loop {m : Nat} {ih : IH} {U : List Tm} {i : Nat} {s t : Tm} {w : Why} {x5 : Option D} (c : Cx U) (hs : s ∈ U) : ∀ (os : List Nat) (S : List Stp) (L : List (Tm × Nat)) (R : IH) (x6 : Option D), Good U S → LOk S L R → i < S.length → (∀ o ∈ os, o < S.length) →
    ∃ L' R' x', LOk (ntL i s os S) L' R' ∧ Good U (ntL i s os S) ∧ S <+: ntL i s os S ∧ forL (fun _ => true) (gNm 6) (yExpr (xCallM "Closure" "note" ((progs (m + 1)).1 .Closure_note) (xVar 0) (xCons (xVar 2) (xCons (xBin fIx (xBin fIx (xUn (fFld "Closure" "steps") (xVar 0)) (xVar 6)) (xC (.int 1))) (xCons (xArgs fTup (xCons (xC (.str "chained")) (xCons (xVar 1) (xCons (xVar 6) xNil)))) xNil))))) (intL os) (gρ ih i s t w x5 x6) (hc ih S L R) = some (.nx, gρ ih i s t w x5 x', hc ih (ntL i s os S) L' R')
  | [], S, L, R, x6, g, hL, hi, ho => ⟨L, R, x6, hL, g, List.prefix_rfl, by simp [intL, ntL]⟩
  | o :: os, S, L, R, x6, g, hL, hi, ho => by
    have hlt := ho o (List.mem_cons_self ..)
    have hy : S[o]? = some S[o] := List.getElem?_eq_getElem hlt
    generalize S[o] = y at hy
    have hyU := (g.inU y (List.mem_of_getElem? hy)).2
    obtain ⟨L1, R1, hL1, e1⟩ := note_ok' (m := m) (ih := ih) (w := .ch i o) c g hL hs hyU
    have g1 : Good U (nt S s y.2.1 (.ch i o)) := g.nt hs hyU (by
      simp [refs]
      exact ⟨hi, hlt⟩)
    have p1 : S <+: nt S s y.2.1 (.ch i o) := nt_pre ..
    obtain ⟨L2, R2, x', hL2, g2, p2, e2⟩ := lefts_loop (m := m) (ih := ih) (i := i) (t := t) (w := w) (x5 := x5) c hs os (nt S s y.2.1 (.ch i o)) L1 R1 (some (.int o)) g1 hL1 (Nat.lt_of_lt_of_le hi p1.length_le) fun q hq => Nat.lt_of_lt_of_le (ho q (List.mem_cons_of_mem _ hq)) p1.length_le
    refine ⟨L2, R2, x', ?_, ?_, ?_, ?_⟩
    · rw [ntL, hy]
      exact hL2
    · rw [ntL, hy]
      exact g2
    · rw [ntL, hy]
      exact p1.trans p2
    · have e3 : ntL i s (o :: os) S = ntL i s os (nt S s y.2.1 (.ch i o)) := by rw [ntL, hy]
      rw [e3, ← e2]
      have e4 : intL (o :: os) = .int o :: intL os := rfl
      have e5 := get_encS hy
      simp only [hc, encW] at e1
      rw [e4, forL_cons]
      simp [hc, -atD_nat, e5, encS, sz, e1]
theorem rng_loop {m : Nat} {ih : IH} {U : List Tm} {i : Nat} {s t : Tm} {w : Why} {x5 : Option D} (c : Cx U) (hs : s ∈ U) (ht : t ∈ U) : ∀ (n lo : Nat) (S : List Stp) (L : List (Tm × Nat)) (R : IH) (x6 : Option D), Good U S → LOk S L R → i < S.length → lo + n ≤ S.length →
    ∃ L' R' x', LOk (ntR i s t (List.range' lo n) S) L' R' ∧ Good U (ntR i s t (List.range' lo n) S) ∧ forL (fun _ => true) (gNm 6) (yIf (tVal (xBin fEq (xBin fIx (xBin fIx (xUn (fFld "Closure" "steps") (xVar 0)) (xVar 6)) (xC (.int 1))) (xVar 2))) (yExpr (xCallM "Closure" "note" ((progs (m + 1)).1 .Closure_note) (xVar 0) (xCons (xBin fIx (xBin fIx (xUn (fFld "Closure" "steps") (xVar 0)) (xVar 6)) (xC (.int 0))) (xCons (xVar 3) (xCons (xArgs fTup (xCons (xC (.str "chained")) (xCons (xVar 6) (xCons (xVar 1) xNil)))) xNil))))) yNext) (rngL lo n) (gρ ih i s t w x5 x6) (hc ih S L R) = some (.nx, gρ ih i s t w x5 x', hc ih (ntR i s t (List.range' lo n) S) L' R')
  | 0, lo, S, L, R, x6, g, hL, hi, ho => ⟨L, R, x6, hL, g, by simp [rngL, ntR]⟩
  | n + 1, lo, S, L, R, x6, g, hL, hi, ho => by
    have hlt : lo < S.length := by omega
    have hy : S[lo]? = some S[lo] := List.getElem?_eq_getElem hlt
    generalize S[lo] = y at hy
    have hyU := g.inU y (List.mem_of_getElem? hy)
    have e5 := get_encS hy
    have e4 : rngL lo (n + 1) = .int lo :: rngL ((lo + 1 : Nat) : Int) n := rfl
    have er : List.range' lo (n + 1) = lo :: List.range' (lo + 1) n := rfl
    have d1 : y.2.1.dep ≤ 64 := Nat.le_trans (c.dep _ hyU.2) (by omega)
    have d2 : s.dep ≤ 64 := Nat.le_trans (c.dep _ hs) (by omega)
    rw [er]
    by_cases e : y.2.1 = s
    · have e3 : ntR i s t (lo :: List.range' (lo + 1) n) S = ntR i s t (List.range' (lo + 1) n) (nt S y.1 t (.ch lo i)) := by
        rw [ntR, hy]
        simp only [e, if_true]
      obtain ⟨L1, R1, hL1, e1⟩ := note_ok' (m := m) (ih := ih) (w := .ch lo i) c g hL hyU.1 ht
      have g1 : Good U (nt S y.1 t (.ch lo i)) := g.nt hyU.1 ht (by
        simp [refs]
        exact ⟨hlt, hi⟩)
      have p1 : S <+: nt S y.1 t (.ch lo i) := nt_pre ..
      have := p1.length_le
      obtain ⟨L2, R2, x', hL2, g2, e2⟩ := rng_loop (m := m) (ih := ih) (i := i) (w := w) (x5 := x5) c hs ht n (lo + 1) (nt S y.1 t (.ch lo i)) L1 R1 (some (.int lo)) g1 hL1 (by omega) (by omega)
      rw [e3]
      refine ⟨L2, R2, x', hL2, g2, ?_⟩
      rw [← e2, e4, forL_cons]
      simp only [hc, encW] at e1
      simp [hc, -atD_nat, e5, encS, sz, e1, fEq_enc d1 d2, fEq_enc d2 d2, e]
    · have e3 : ntR i s t (lo :: List.range' (lo + 1) n) S = ntR i s t (List.range' (lo + 1) n) S := by
        rw [ntR, hy]
        simp only [e, if_false]
      obtain ⟨L2, R2, x', hL2, g2, e2⟩ := rng_loop (m := m) (ih := ih) (i := i) (w := w) (x5 := x5) c hs ht n (lo + 1) S L R (some (.int lo)) g hL (by omega) (by omega)
      rw [e3]
      refine ⟨L2, R2, x', hL2, g2, ?_⟩
      rw [← e2, e4, forL_cons]
      simp [hc, -atD_nat, e5, encS, sz, fEq_enc d1 d2, e]

theorem lefts_get {ih : IH} {S : List Stp} {L : List (Tm × Nat)} {R : IH} (hL : LOk S L R) {t : Tm} (ht : t.dep ≤ 7) : ∃ d, (dlook (kvL ih.length L) (key t)).getD (.lst []) = d ∧ fList [d] (hc ih S L R) = some (.lst (intL (lefts S t)), hc ih S L R) := by
  rw [kvL_look hL.dep]
  cases e : L.find? fun p => decide (p.1 = t) with
  | none =>
    refine ⟨_, rfl, ?_⟩
    have := hL.all t (find_none e)
    rw [this]
    rfl
  | some p =>
    obtain ⟨h1, h2⟩ := find_mem e
    obtain ⟨s, j⟩ := p
    simp only at h2
    subst h2
    refine ⟨_, rfl, ?_⟩
    have h3 := hL.get _ _ h1
    simp [fList, f1, itemsOf, hc, h3]
theorem srcR1_nat {n : Nat} {ih : IH} (h : n ≤ 1000000) : srcR1 [.int (n : Int)] ih = some ⟨rngL 0 n, fun _ => true⟩ := by
  have h1 : (-(2 ^ 62) : Int) ≤ 0 := by decide
  have h2 : (0 : Int) < 2 ^ 62 := by decide
  have h3 : (1000000 : Int) < 2 ^ 62 := by decide
  have h4 : (-(2 ^ 62) : Int) ≤ (n : Int) := by
    refine Int.le_trans h1 ?_
    omega
  have h5 : (n : Int) < 2 ^ 62 := by
    refine Int.lt_of_le_of_lt ?_ h3
    omega
  simp only [srcR1, srcRng]
  rw [if_pos ⟨h1, h2, h4, h5⟩]
  simp
@[simp] theorem srcR1_0 {ih : IH} : srcR1 [.int 0] ih = some ⟨rngL 0 0, fun _ => true⟩ := srcR1_nat (n := 0) (by omega)
@[simp] theorem srcR1_1 {ih : IH} : srcR1 [.int 1] ih = some ⟨rngL 0 1, fun _ => true⟩ := srcR1_nat (n := 1) (by omega)
@[simp] theorem srcR1_2 {ih : IH} : srcR1 [.int 2] ih = some ⟨rngL 0 2, fun _ => true⟩ := srcR1_nat (n := 2) (by omega)
@[simp] theorem srcR1_3 {ih : IH} : srcR1 [.int 3] ih = some ⟨rngL 0 3, fun _ => true⟩ := srcR1_nat (n := 3) (by omega)
@[simp] theorem fSubI_int {i j : Int} {ih : IH} : fSubI (.int i) (.int j) ih = some (.int (i - j), ih) := rfl
@[simp] theorem fAddI_int {i j : Int} {ih : IH} : fAddI (.int i) (.int j) ih = some (.int (i + j), ih) := rfl
@[simp] theorem fLtI_int {i j : Int} {ih : IH} : fLtI (.int i) (.int j) ih = some (.bl (decide (i < j)), ih) := rfl
@[simp] theorem rngL_0 {lo : Int} : rngL lo 0 = [] := rfl
@[simp] theorem rngL_1 {lo : Int} : rngL lo 1 = [.int lo] := rfl
@[simp] theorem rngL_2 {lo : Int} : rngL lo 2 = [.int lo, .int (lo + 1)] := rfl
theorem same_cases {s t : Tm} (h : same s t = true) : (∃ c, s = .k c ∧ t = .k c) ∨ (∃ c p q, s = .u c p ∧ t = .u c q) ∨ ∃ c p p' q q', s = .b c p p' ∧ t = .b c q q' := by
  cases s <;> cases t <;> simp [Tm.same] at h
  · exact .inl ⟨_, rfl, by rw [h]⟩
  · exact .inr (.inl ⟨_, _, _, rfl, by rw [h]⟩)
  · exact .inr (.inr ⟨_, _, _, _, _, rfl, by rw [h]⟩)

theorem xSrcN_run {f : List D → IH → Option Src} {ms : Env → M (List D)} {ρ : Env} {ih ih1 : IH} {l : List D} {s : Src} (h1 : ms ρ ih = some (l, ih1)) (h2 : f l ih1 = some s) : xSrcN f ms ρ ih = some (s, ih1) := by
  unfold xSrcN
  rw [h1, Option.bind_some]
  simp only
  rw [h2, Option.map_some]
theorem for_lefts {m : Nat} {ih : IH} {U : List Tm} {i : Nat} {s t : Tm} {w : Why} {x5 : Option D} {S : List Stp} {L : List (Tm × Nat)} {R : IH} (c : Cx U) (hs : s ∈ U) (ht : t ∈ U) (g : Good U S) (hL : LOk S L R) (hi : i < S.length) :
    ∃ L' R' x', LOk (ntL i s (lefts S t) S) L' R' ∧ Good U (ntL i s (lefts S t) S) ∧ S <+: ntL i s (lefts S t) S ∧
      yFor (xSrc srcAny (xArgs fList (xCons (xMethC isDctA fGet (xUn (fFld "Closure" "lefts") (xVar 0)) (xCons (xVar 3) (xCons (xArgs fLst xNil) xNil))) xNil))) (gNm 6) (yExpr (xCallM "Closure" "note" ((progs (m + 1)).1 .Closure_note) (xVar 0) (xCons (xVar 2) (xCons (xBin fIx (xBin fIx (xUn (fFld "Closure" "steps") (xVar 0)) (xVar 6)) (xC (.int 1))) (xCons (xArgs fTup (xCons (xC (.str "chained")) (xCons (xVar 1) (xCons (xVar 6) xNil)))) xNil))))) (gρ ih i s t w x5 none) (hc ih S L R) = some (.nx, gρ ih i s t w x5 x', hc ih (ntL i s (lefts S t) S) L' R') := by
  obtain ⟨d, hd, ed⟩ := lefts_get (ih := ih) hL (c.dep t ht)
  obtain ⟨L3, R3, x6, hL3, g3, p3, e3⟩ := lefts_loop (m := m) (ih := ih) (i := i) (s := s) (t := t) (w := w) (x5 := x5) c hs (lefts S t) S L R none g hL hi fun o ho => by
    obtain ⟨y, hy, _⟩ := lefts_ok.mp ho
    exact (List.getElem?_eq_some_iff.mp hy).1
  have hk : hkey (enc t) = some (key t) := hkey_enc (Nat.le_trans (c.dep t ht) (by omega))
  refine ⟨L3, R3, x6, hL3, g3, p3, ?_⟩
  simp only [hc] at hd ed e3 ⊢
  simp [hk, hd, ed, e3]
theorem for_rng {m : Nat} {ih : IH} {U : List Tm} {i : Nat} {s t : Tm} {w : Why} {x5 x6 : Option D} {S : List Stp} {L : List (Tm × Nat)} {R : IH} (c : Cx U) (hs : s ∈ U) (ht : t ∈ U) (g : Good U S) (hL : LOk S L R) (hi : i < S.length) :
    ∃ L' R' x', LOk (ntR i s t (List.range S.length) S) L' R' ∧
      yFor (xSrcN srcR1 (xCons (xArgs fLen (xCons (xUn (fFld "Closure" "steps") (xVar 0)) xNil)) xNil)) (gNm 6) (yIf (tVal (xBin fEq (xBin fIx (xBin fIx (xUn (fFld "Closure" "steps") (xVar 0)) (xVar 6)) (xC (.int 1))) (xVar 2))) (yExpr (xCallM "Closure" "note" ((progs (m + 1)).1 .Closure_note) (xVar 0) (xCons (xBin fIx (xBin fIx (xUn (fFld "Closure" "steps") (xVar 0)) (xVar 6)) (xC (.int 0))) (xCons (xVar 3) (xCons (xArgs fTup (xCons (xC (.str "chained")) (xCons (xVar 6) (xCons (xVar 1) xNil)))) xNil))))) yNext) (gρ ih i s t w x5 x6) (hc ih S L R) = some (.nx, gρ ih i s t w x5 x', hc ih (ntR i s t (List.range S.length) S) L' R') := by
  obtain ⟨L4, R4, x7, hL4, g4, e4⟩ := rng_loop (m := m) (ih := ih) (i := i) (w := w) (x5 := x5) c hs ht S.length 0 S L R x6 g hL hi (by omega)
  rw [← List.range_eq_range'] at e4 hL4
  refine ⟨L4, R4, x7, hL4, ?_⟩
  have z : S.length ≤ 1000000 := Nat.le_of_lt (Nat.lt_of_le_of_lt g.len c.sz)
  have e : (xSrcN srcR1 (xCons (xArgs fLen (xCons (xUn (fFld "Closure" "steps") (xVar 0)) xNil)) xNil)) (gρ ih i s t w x5 x6) (hc ih S L R) = some (⟨rngL 0 S.length, fun _ => true⟩, hc ih S L R) := by
    refine xSrcN_run (l := [.int (S.length : Nat)]) ?_ (srcR1_nat z)
    simp [hc]
  rw [yFor_ap, e]
  exact e4
theorem go_ok {m : Nat} {ih : IH} {U : List Tm} {S : List Stp} {L : List (Tm × Nat)} {R : IH} {i : Nat} (c : Cx U) (g : Good U S) (hL : LOk S L R) (hi : i < S.length) :
    ∃ L' R', LOk (goOn S i) L' R' ∧ (progs (m + 2)).1 .Closure_go_on [.obj ih.length, .int i] (hc ih S L R) = some (.non, hc ih (goOn S i) L' R') := by
  have hy : S[i]? = some S[i] := List.getElem?_eq_getElem hi
  generalize S[i] = x at hy
  obtain ⟨s, t, w⟩ := x
  have hU := g.inU _ (List.mem_of_getElem? hy)
  simp only at hU
  have e5 := get_encS hy
  have hgo : goOn S i = go4 S i s t := by rw [goOn, hy]
  rw [hgo]
  have lz : ∀ {S : List Stp}, Tm.Good U S → S.length < 1000000 := fun g => Nat.lt_of_le_of_lt g.len c.sz
  obtain ⟨L1, R1, hL1, e1⟩ := note_ok' (m := m) (ih := ih) (w := .tn i) c g hL hU.2 hU.1
  have g1 : Tm.Good U (go1 S i s t) := g.nt hU.2 hU.1 (by
    simp [refs]
    exact hi)
  have p1 : S <+: go1 S i s t := nt_pre ..
  have l1 := p1.length_le
  have z1 := lz g1
  -- the parts
  have H2 : ∃ L2 R2 x5, LOk (go2 S i s t) L2 R2 ∧ Tm.Good U (go2 S i s t) ∧ go1 S i s t <+: go2 S i s t ∧
      (yIf (tAnd2 (tNot2 (tVal (xArgs ((progs (m + 1)).1 .is_variable) (xCons (xVar 2) xNil)))) (tAnd2 (tNot2 (tVal (xArgs ((progs (m + 1)).1 .is_variable) (xCons (xVar 3) xNil)))) (tAnd2 (tVal (xBin fEq (xBin fIx (xVar 2) (xC (.int 0))) (xBin fIx (xVar 3) (xC (.int 0))))) (tVal (xBin fEq (xArgs fLen (xCons (xVar 2) xNil)) (xArgs fLen (xCons (xVar 3) xNil))))))) (yFor (xSrcN srcR1 (xCons (xBin fSubI (xArgs fLen (xCons (xVar 2) xNil)) (xC (.int 1))) xNil)) (gNm 5) (yExpr (xCallM "Closure" "note" ((progs (m + 1)).1 .Closure_note) (xVar 0) (xCons (xBin fIx (xVar 2) (xBin fAdd (xC (.int 1)) (xVar 5))) (xCons (xBin fIx (xVar 3) (xBin fAdd (xC (.int 1)) (xVar 5))) (xCons (xArgs fTup (xCons (xC (.str "parts")) (xCons (xVar 1) (xCons (xVar 5) xNil)))) xNil)))))) yNext)
        (gρ ih i s t w none none) (hc ih (go1 S i s t) L1 R1) = some (.nx, gρ ih i s t w x5 none, hc ih (go2 S i s t) L2 R2) := by
    unfold go2
    by_cases hs : same s t = true
    · rw [if_pos hs]
      rcases same_cases hs with ⟨h, rfl, rfl⟩ | ⟨h, p, q, rfl, rfl⟩ | ⟨h, p, p', q, q', rfl, rfl⟩
      · refine ⟨L1, R1, none, hL1, g1, List.prefix_rfl, ?_⟩
        simp [is_variable_tup, enc, args, ntP]
      · have pU : p ∈ U := c.cl _ hU.1 p (by simp [args])
        have qU : q ∈ U := c.cl _ hU.2 q (by simp [args])
        obtain ⟨L2, R2, hL2, e2⟩ := note_ok' (m := m) (ih := ih) (w := .pt i 0) c g1 hL1 pU qU
        refine ⟨L2, R2, some (.int 0), hL2, g1.nt pU qU (by simp [refs]; omega), nt_pre .., ?_⟩
        simp only [hc, encW] at e2
        simp at e2
        simp [is_variable_tup, enc, args, ntP, forL_cons, hc, sz, e2]
      · have pU : p ∈ U := c.cl _ hU.1 p (by simp [args])
        have qU : q ∈ U := c.cl _ hU.2 q (by simp [args])
        have pU' : p' ∈ U := c.cl _ hU.1 p' (by simp [args])
        have qU' : q' ∈ U := c.cl _ hU.2 q' (by simp [args])
        obtain ⟨L2, R2, hL2, e2⟩ := note_ok' (m := m) (ih := ih) (w := .pt i 0) c g1 hL1 pU qU
        have g2 : Tm.Good U (nt (go1 S i (.b h p p') (.b h q q')) p q (.pt i 0)) := g1.nt pU qU (by simp [refs]; omega)
        have p2 : go1 S i (.b h p p') (.b h q q') <+: nt (go1 S i (.b h p p') (.b h q q')) p q (.pt i 0) := nt_pre ..
        have l2 := p2.length_le
        obtain ⟨L3, R3, hL3, e3⟩ := note_ok' (m := m) (ih := ih) (w := .pt i 1) c g2 hL2 pU' qU'
        refine ⟨L3, R3, some (.int 1), hL3, g2.nt pU' qU' (by simp [refs]; omega), p2.trans (nt_pre ..), ?_⟩
        simp only [hc, encW] at e2 e3
        simp at e2 e3
        simp [is_variable_tup, enc, args, ntP, forL_cons, hc, sz, e2, e3]
    · rw [if_neg hs]
      refine ⟨L1, R1, none, hL1, g1, List.prefix_rfl, ?_⟩
      cases s <;> cases t <;> simp [is_variable_tup, is_variable_int, enc] <;> simp [Tm.same] at hs <;> simp [hs]
  obtain ⟨L2, R2, x5, hL2, g2, p2, e2⟩ := H2
  have l2 := p2.length_le
  have z2 := lz g2
  obtain ⟨L3, R3, x6, hL3, g3, p3, e3⟩ := for_lefts (m := m) (ih := ih) (i := i) (s := s) (t := t) (w := w) (x5 := x5) c hU.1 hU.2 g2 hL2 (by omega)
  have l3 := p3.length_le
  obtain ⟨L4, R4, x7, hL4, e4⟩ := for_rng (m := m) (ih := ih) (i := i) (w := w) (x5 := x5) (x6 := x6) c hU.1 hU.2 g3 hL3 (by omega)
  refine ⟨L4, R4, hL4, ?_⟩
  have eg : nt S t s (.tn i) = go1 S i s t := rfl
  have eg3 : ntL i s (lefts (go2 S i s t) t) (go2 S i s t) = go3 S i s t := rfl
  have eg4 : ntR i s t (List.range (go3 S i s t).length) (go3 S i s t) = go4 S i s t := rfl
  rw [eg] at e1
  rw [eg3] at e3 e4
  rw [eg4] at e4
  rw [pg, body, r_Closure_go_on, bodyM_ap]
  simp only [hc, encW] at e1 e2 e3 e4 ⊢
  clear eg eg3 eg4 z2 z1 l1 l2 l3 p1 p2 p3 g1 g2 g3 hL1 hL2 hL3 hgo lz hL4
  generalize go1 S i s t = S1 at *
  generalize go2 S i s t = S2 at *
  generalize go3 S i s t = S3 at *
  generalize go4 S i s t = S4 at *
  simp [-yIf_ap, -yFor_ap, -atD_nat, e5, encS, sz, e1]
  rw [e2]
  simp only [Option.bind_some, e3, e4]
end Gh.K67
end
section
set_option Elab.async false
set_option linter.all false
set_option maxRecDepth 100000
/-! k67: the closure is made; clashes. -/
namespace Gh.K67
open PySem PySem.Spec PyProof.Rows L2 Tm
abbrev iρ (ih : IH) (P : D) (x2 x3 x4 x5 : Option D) : Env := [some (.obj ih.length), some P, x2, x3, x4, x5]
theorem clo_loop {m : Nat} {ih : IH} {U : List Tm} {P : D} {x2 x3 x4 : Option D} (c : Cx U) : ∀ (n : Nat) (S : List Stp) (L : List (Tm × Nat)) (R : IH) (i : Nat), Good U S → LOk S L R → i ≤ S.length → U.length * U.length < i + n →
    ∃ L' R' x', LOk (clo n S i) L' R' ∧ whileN (tVal (xBin fLtI (xVar 5) (xArgs fLen (xCons (xUn (fFld "Closure" "steps") (xVar 0)) xNil)))) (ySeq (yExpr (xCallM "Closure" "go_on" ((progs (m + 2)).1 .Closure_go_on) (xVar 0) (xCons (xVar 5) xNil))) (ySet 5 (xBin fAddI (xVar 5) (xC (.int 1))))) n (iρ ih P x2 x3 x4 (some (.int i))) (hc ih S L R) = some (.nx, iρ ih P x2 x3 x4 x', hc ih (clo n S i) L' R')
  | 0, S, L, R, i, g, hL, hi, h => by
    have := g.len
    omega
  | n + 1, S, L, R, i, g, hL, hi, h => by
    rw [clo, whileN]
    by_cases q : i < S.length
    · rw [if_pos q]
      obtain ⟨L1, R1, hL1, e1⟩ := go_ok (m := m) (ih := ih) c g hL q
      have gr := goOn_grow (G := fun _ => True) (i := i) c.cl g
      obtain ⟨L2, R2, x', hL2, e2⟩ := clo_loop (m := m) (ih := ih) (P := P) (x2 := x2) (x3 := x3) (x4 := x4) c n (goOn S i) L1 R1 (i + 1) (gr.good g) hL1 (by have := gr.pre.length_le; omega) (by omega)
      refine ⟨L2, R2, x', hL2, ?_⟩
      rw [← e2]
      simp only [hc] at e1 ⊢
      have q2 : (i : Int) < (S.length : Int) := by omega
      simp [q2, e1]
    · rw [if_neg q]
      refine ⟨L, R, some (.int i), hL, ?_⟩
      have q2 : ¬ (i : Int) < (S.length : Int) := by omega
      simp [hc]
      omega
def encP (P : PL) : List D := P.map fun p => .tup [enc p.1, enc p.2]
theorem given_loop {m : Nat} {ih : IH} {U : List Tm} {d : D} {x5 : Option D} (c : Cx U) : ∀ (P : PL) (i : Nat) (S : List Stp) (L : List (Tm × Nat)) (R : IH) (x2 x3 x4 : Option D), Good U S → LOk S L R → (∀ p ∈ P, p.1 ∈ U ∧ p.2 ∈ U) →
    ∃ L' R' x2' x3' x4', LOk (ntG i P S) L' R' ∧ Good U (ntG i P S) ∧ forL (fun _ => true) (gTp 2 (gsCons (gNm 2) (gsCons (gTp 2 (gsCons (gNm 3) (gsCons (gNm 4) gsNil))) gsNil))) (yExpr (xCallM "Closure" "note" ((progs (m + 1)).1 .Closure_note) (xVar 0) (xCons (xVar 3) (xCons (xVar 4) (xCons (xArgs fTup (xCons (xC (.str "given")) (xCons (xVar 2) xNil))) xNil))))) (enumL i (encP P)) (iρ ih d x2 x3 x4 x5) (hc ih S L R) = some (.nx, iρ ih d x2' x3' x4' x5, hc ih (ntG i P S) L' R')
  | [], i, S, L, R, x2, x3, x4, g, hL, hU => ⟨L, R, x2, x3, x4, hL, g, by simp [encP, enumL, ntG]⟩
  | p :: P, i, S, L, R, x2, x3, x4, g, hL, hU => by
    have hp := hU p (List.mem_cons_self ..)
    obtain ⟨L1, R1, hL1, e1⟩ := note_ok' (m := m) (ih := ih) (w := .gv i) c g hL hp.1 hp.2
    have g1 : Tm.Good U (nt S p.1 p.2 (.gv i)) := g.nt hp.1 hp.2 (by simp [refs])
    obtain ⟨L2, R2, y2, y3, y4, hL2, g2, e2⟩ := given_loop (m := m) (ih := ih) (d := d) (x5 := x5) c P (i + 1) (nt S p.1 p.2 (.gv i)) L1 R1 (some (.int i)) (some (enc p.1)) (some (enc p.2)) g1 hL1 fun q hq => hU q (List.mem_cons_of_mem _ hq)
    refine ⟨L2, R2, y2, y3, y4, hL2, g2, ?_⟩
    rw [ntG, ← e2]
    have e4 : enumL i (encP (p :: P)) = .tup [.int i, .tup [enc p.1, enc p.2]] :: enumL (i + 1) (encP P) := rfl
    simp only [hc, encW] at e1 ⊢
    rw [e4, forL_cons]
    simp [e1, sz]
/-- the whole closure -/
def clos (U : List Tm) (P : PL) : List Stp := clo (U.length * U.length + 1) (ntG 0 P []) 0
theorem LOk.nil : LOk [] [] [] := ⟨by simp, by simp, by simp, fun t _ => rfl, by simp, by simp⟩
theorem s_sn : ¬ Str.ofString "steps" = Str.ofString "numbers" := by decide +kernel
theorem s_sl : ¬ Str.ofString "steps" = Str.ofString "lefts" := by decide +kernel
theorem s_nl : ¬ Str.ofString "numbers" = Str.ofString "lefts" := by decide +kernel
theorem srcE1_lst {ds : List D} {ih : IH} : srcE1 [.lst ds] ih = some ⟨enumL 0 ds, fun _ => true⟩ := rfl
theorem init_ok {m : Nat} {ih : IH} {U : List Tm} {P : PL} (c : Cx U) (hU : ∀ p ∈ P, p.1 ∈ U ∧ p.2 ∈ U) :
    ∃ L R, LOk (clos U P) L R ∧ (progs (m + 3)).1 .Closure_init [.obj ih.length, .lst (encP P)] (ih ++ [.ins "Closure" []]) = some (.non, hc ih (clos U P) L R) := by
  obtain ⟨L1, R1, y2, y3, y4, hL1, g1, e1⟩ := given_loop (m := m + 1) (ih := ih) (d := .lst (encP P)) (x5 := none) c P 0 [] [] [] none none none .nil .nil hU
  obtain ⟨L2, R2, x', hL2, e2⟩ := clo_loop (m := m) (ih := ih) (P := .lst (encP P)) (x2 := y2) (x3 := y3) (x4 := y4) c (U.length * U.length + 1) (ntG 0 P []) L1 R1 0 g1 hL1 (Nat.zero_le _) (by omega)
  refine ⟨L2, R2, hL2, ?_⟩
  have e3 := yWhile_of e2
  have e4 : hc ih [] [] [] = hq ih [] [] [] [] := rfl
  have e5 : hq ih [] [] [] [] = ih ++ [.ins "Closure" [("steps", .obj (ih.length + 1)), ("numbers", .obj (ih.length + 2)), ("lefts", .obj (ih.length + 3))], .lst [], .dct [], .dct []] := rfl
  rw [e4, e5] at e1
  simp only [Int.natCast_zero, Int.ofNat_zero, Int.cast_ofNat_Int] at e3
  rw [pg, body, r_Closure_init, bodyM_ap]
  simp [-yFor_ap, fSetF, putFd, s_sn, s_sl, s_nl, sz]
  rw [yFor_ap, xSrcN_run (l := [.lst (encP P)]) (s := ⟨enumL 0 (encP P), fun _ => true⟩) (by simp; rfl) srcE1_lst]
  simp only [Option.bind_some]
  rw [e1]
  simp [e3, clos]
end Gh.K67
end
section
set_option Elab.async false
set_option linter.all false
set_option maxRecDepth 100000
/-! k67: clashes; the steps that some steps rest on. -/
namespace Gh.K67
open PySem PySem.Spec PyProof.Rows L2 Tm
theorem fEq_lit {x y : Str} {v : Bool} {ih : IH} (hx : PyData.strOk x = true) (hy : PyData.strOk y = true) (h : decide (x = y) = v) : fEq (.str x) (.str y) ih = some (.bl v, ih) := by rw [fEq_str hx hy, h]
theorem fNe_lit {x y : Str} {v : Bool} {ih : IH} (hx : PyData.strOk x = true) (hy : PyData.strOk y = true) (h : (!decide (x = y)) = v) : fNe (.str x) (.str y) ih = some (.bl v, ih) := by rw [fNe_str hx hy, h]
@[simp] theorem fEq_given_turned {ih : IH} : fEq (.str (Str.ofString "given")) (.str (Str.ofString "turned")) ih = some (.bl false, ih) := fEq_lit (by decide +kernel) (by decide +kernel) (by decide +kernel)
@[simp] theorem fEq_given_parts {ih : IH} : fEq (.str (Str.ofString "given")) (.str (Str.ofString "parts")) ih = some (.bl false, ih) := fEq_lit (by decide +kernel) (by decide +kernel) (by decide +kernel)
@[simp] theorem fEq_given_chained {ih : IH} : fEq (.str (Str.ofString "given")) (.str (Str.ofString "chained")) ih = some (.bl false, ih) := fEq_lit (by decide +kernel) (by decide +kernel) (by decide +kernel)
@[simp] theorem fEq_turned_turned {ih : IH} : fEq (.str (Str.ofString "turned")) (.str (Str.ofString "turned")) ih = some (.bl true, ih) := fEq_lit (by decide +kernel) (by decide +kernel) (by decide +kernel)
@[simp] theorem fEq_turned_parts {ih : IH} : fEq (.str (Str.ofString "turned")) (.str (Str.ofString "parts")) ih = some (.bl false, ih) := fEq_lit (by decide +kernel) (by decide +kernel) (by decide +kernel)
@[simp] theorem fEq_turned_chained {ih : IH} : fEq (.str (Str.ofString "turned")) (.str (Str.ofString "chained")) ih = some (.bl false, ih) := fEq_lit (by decide +kernel) (by decide +kernel) (by decide +kernel)
@[simp] theorem fEq_parts_turned {ih : IH} : fEq (.str (Str.ofString "parts")) (.str (Str.ofString "turned")) ih = some (.bl false, ih) := fEq_lit (by decide +kernel) (by decide +kernel) (by decide +kernel)
@[simp] theorem fEq_parts_parts {ih : IH} : fEq (.str (Str.ofString "parts")) (.str (Str.ofString "parts")) ih = some (.bl true, ih) := fEq_lit (by decide +kernel) (by decide +kernel) (by decide +kernel)
@[simp] theorem fEq_parts_chained {ih : IH} : fEq (.str (Str.ofString "parts")) (.str (Str.ofString "chained")) ih = some (.bl false, ih) := fEq_lit (by decide +kernel) (by decide +kernel) (by decide +kernel)
@[simp] theorem fEq_chained_turned {ih : IH} : fEq (.str (Str.ofString "chained")) (.str (Str.ofString "turned")) ih = some (.bl false, ih) := fEq_lit (by decide +kernel) (by decide +kernel) (by decide +kernel)
@[simp] theorem fEq_chained_parts {ih : IH} : fEq (.str (Str.ofString "chained")) (.str (Str.ofString "parts")) ih = some (.bl false, ih) := fEq_lit (by decide +kernel) (by decide +kernel) (by decide +kernel)
@[simp] theorem fEq_chained_chained {ih : IH} : fEq (.str (Str.ofString "chained")) (.str (Str.ofString "chained")) ih = some (.bl true, ih) := fEq_lit (by decide +kernel) (by decide +kernel) (by decide +kernel)
@[simp] theorem fEq_unified_unified {ih : IH} : fEq (.str (Str.ofString "unified")) (.str (Str.ofString "unified")) ih = some (.bl true, ih) := fEq_lit (by decide +kernel) (by decide +kernel) (by decide +kernel)
@[simp] theorem fNe_unified_unified {ih : IH} : fNe (.str (Str.ofString "unified")) (.str (Str.ofString "unified")) ih = some (.bl false, ih) := fNe_lit (by decide +kernel) (by decide +kernel) (by decide +kernel)
@[simp] theorem fEq_clash_unified {ih : IH} : fEq (.str (Str.ofString "clash")) (.str (Str.ofString "unified")) ih = some (.bl false, ih) := fEq_lit (by decide +kernel) (by decide +kernel) (by decide +kernel)
@[simp] theorem fNe_clash_unified {ih : IH} : fNe (.str (Str.ofString "clash")) (.str (Str.ofString "unified")) ih = some (.bl true, ih) := fNe_lit (by decide +kernel) (by decide +kernel) (by decide +kernel)
@[simp] theorem fEq_loop_unified {ih : IH} : fEq (.str (Str.ofString "loop")) (.str (Str.ofString "unified")) ih = some (.bl false, ih) := fEq_lit (by decide +kernel) (by decide +kernel) (by decide +kernel)
@[simp] theorem fNe_loop_unified {ih : IH} : fNe (.str (Str.ofString "loop")) (.str (Str.ofString "unified")) ih = some (.bl true, ih) := fNe_lit (by decide +kernel) (by decide +kernel) (by decide +kernel)
@[simp] theorem fEq_unified_clash {ih : IH} : fEq (.str (Str.ofString "unified")) (.str (Str.ofString "clash")) ih = some (.bl false, ih) := fEq_lit (by decide +kernel) (by decide +kernel) (by decide +kernel)
@[simp] theorem fNe_unified_clash {ih : IH} : fNe (.str (Str.ofString "unified")) (.str (Str.ofString "clash")) ih = some (.bl true, ih) := fNe_lit (by decide +kernel) (by decide +kernel) (by decide +kernel)
@[simp] theorem fEq_unified_loop {ih : IH} : fEq (.str (Str.ofString "unified")) (.str (Str.ofString "loop")) ih = some (.bl false, ih) := fEq_lit (by decide +kernel) (by decide +kernel) (by decide +kernel)
@[simp] theorem fNe_unified_loop {ih : IH} : fNe (.str (Str.ofString "unified")) (.str (Str.ofString "loop")) ih = some (.bl true, ih) := fNe_lit (by decide +kernel) (by decide +kernel) (by decide +kernel)
@[simp] theorem fEq_clash_clash {ih : IH} : fEq (.str (Str.ofString "clash")) (.str (Str.ofString "clash")) ih = some (.bl true, ih) := fEq_lit (by decide +kernel) (by decide +kernel) (by decide +kernel)
@[simp] theorem fNe_clash_clash {ih : IH} : fNe (.str (Str.ofString "clash")) (.str (Str.ofString "clash")) ih = some (.bl false, ih) := fNe_lit (by decide +kernel) (by decide +kernel) (by decide +kernel)
@[simp] theorem fEq_clash_loop {ih : IH} : fEq (.str (Str.ofString "clash")) (.str (Str.ofString "loop")) ih = some (.bl false, ih) := fEq_lit (by decide +kernel) (by decide +kernel) (by decide +kernel)
@[simp] theorem fNe_clash_loop {ih : IH} : fNe (.str (Str.ofString "clash")) (.str (Str.ofString "loop")) ih = some (.bl true, ih) := fNe_lit (by decide +kernel) (by decide +kernel) (by decide +kernel)
@[simp] theorem fEq_loop_clash {ih : IH} : fEq (.str (Str.ofString "loop")) (.str (Str.ofString "clash")) ih = some (.bl false, ih) := fEq_lit (by decide +kernel) (by decide +kernel) (by decide +kernel)
@[simp] theorem fNe_loop_clash {ih : IH} : fNe (.str (Str.ofString "loop")) (.str (Str.ofString "clash")) ih = some (.bl true, ih) := fNe_lit (by decide +kernel) (by decide +kernel) (by decide +kernel)
@[simp] theorem fEq_loop_loop {ih : IH} : fEq (.str (Str.ofString "loop")) (.str (Str.ofString "loop")) ih = some (.bl true, ih) := fEq_lit (by decide +kernel) (by decide +kernel) (by decide +kernel)
@[simp] theorem fNe_loop_loop {ih : IH} : fNe (.str (Str.ofString "loop")) (.str (Str.ofString "loop")) ih = some (.bl false, ih) := fNe_lit (by decide +kernel) (by decide +kernel) (by decide +kernel)
/-- whether a step's sides begin differently -/
def clsh (s t : Tm) : Bool := !isV s && !isV t && !Tm.same s t
theorem seq_hq1 {ih : IH} {a : List D} {b c : List (D × D)} {R : IH} : srcE1 [.obj (ih.length + 1)] (hq ih a b c R) = some ⟨enumL 0 a, fun h => decide (h[ih.length + 1]? = some (.lst a))⟩ := by
  simp [srcE1, srcEnum, seqOf]
theorem clash_body {m : Nat} {ih h : IH} {i : Nat} {s t : Tm} {w : Why} :
    (yIf (tAnd2 (tNot2 (tVal (xArgs ((progs (m + 1)).1 .is_variable) (xCons (xVar 2) xNil)))) (tNot2 (tVal (xArgs ((progs (m + 1)).1 .is_variable) (xCons (xVar 3) xNil))))) (yIf (tOr2 (tVal (xBin fNe (xBin fIx (xVar 2) (xC (.int 0))) (xBin fIx (xVar 3) (xC (.int 0))))) (tVal (xBin fNe (xArgs fLen (xCons (xVar 2) xNil)) (xArgs fLen (xCons (xVar 3) xNil))))) (yRet (xVar 1)) yNext) yNext)
      [some (.obj ih.length), some (.int i), some (enc s), some (enc t), some (encW w)] h = some (if clsh s t = true then .rt (.int i) else .nx, [some (.obj ih.length), some (.int i), some (enc s), some (enc t), some (encW w)], h) := by
  cases s with
  | v x => simp [is_variable_tup, is_variable_int, enc, clsh, Tm.same, isV]
  | k c =>
    cases t with
    | k c' => by_cases e : c = c' <;> simp [is_variable_tup, is_variable_int, enc, clsh, Tm.same, isV, e]
    | _ => simp [is_variable_tup, is_variable_int, enc, clsh, Tm.same, isV]
  | u c p =>
    cases t with
    | u c' q => by_cases e : c = c' <;> simp [is_variable_tup, is_variable_int, enc, clsh, Tm.same, isV, e]
    | _ => simp [is_variable_tup, is_variable_int, enc, clsh, Tm.same, isV]
  | b c p q =>
    cases t with
    | b c' q => by_cases e : c = c' <;> simp [is_variable_tup, is_variable_int, enc, clsh, Tm.same, isV, e]
    | _ => simp [is_variable_tup, is_variable_int, enc, clsh, Tm.same, isV]
theorem clash_loop {m : Nat} {ih : IH} {S : List Stp} {b c : List (D × D)} {R : IH} : ∀ (rest done : List Stp) (x1 x2 x3 x4 : Option D), done ++ rest = S →
    ∃ f y1 y2 y3 y4, forL (fun h => decide (h[ih.length + 1]? = some (.lst (S.map encS)))) (gTp 2 (gsCons (gNm 1) (gsCons (gTp 3 (gsCons (gNm 2) (gsCons (gNm 3) (gsCons (gNm 4) gsNil)))) gsNil)))
      (yIf (tAnd2 (tNot2 (tVal (xArgs ((progs (m + 1)).1 .is_variable) (xCons (xVar 2) xNil)))) (tNot2 (tVal (xArgs ((progs (m + 1)).1 .is_variable) (xCons (xVar 3) xNil))))) (yIf (tOr2 (tVal (xBin fNe (xBin fIx (xVar 2) (xC (.int 0))) (xBin fIx (xVar 3) (xC (.int 0))))) (tVal (xBin fNe (xArgs fLen (xCons (xVar 2) xNil)) (xArgs fLen (xCons (xVar 3) xNil))))) (yRet (xVar 1)) yNext) yNext)
      (enumL done.length (rest.map encS)) [some (.obj ih.length), x1, x2, x3, x4] (hq ih (S.map encS) b c R) = some (f, [some (.obj ih.length), y1, y2, y3, y4], hq ih (S.map encS) b c R) ∧
      ((f = .nx ∧ ∀ x ∈ rest, clsh x.1 x.2.1 = false) ∨ ∃ (i : Nat) (x : Stp), S[i]? = some x ∧ clsh x.1 x.2.1 = true ∧ f = .rt (.int i))
  | [], done, x1, x2, x3, x4, h => ⟨.nx, x1, x2, x3, x4, by simp [enumL], .inl ⟨rfl, by simp⟩⟩
  | x :: rest, done, x1, x2, x3, x4, h => by
    obtain ⟨s, t, w⟩ := x
    have e4 : enumL done.length (List.map encS ((s, t, w) :: rest)) = .tup [.int done.length, .tup [enc s, enc t, encW w]] :: enumL (done ++ [(s, t, w)]).length (rest.map encS) := by
      simp [enumL, encS]
    rw [e4, forL_cons]
    by_cases q : clsh s t = true
    · refine ⟨.rt (.int done.length), some (.int done.length), some (enc s), some (enc t), some (encW w), ?_, .inr ⟨done.length, (s, t, w), by rw [← h]; simp, q, rfl⟩⟩
      simp [-yIf_ap, clash_body, q]
    · obtain ⟨f, y1, y2, y3, y4, e1, e2⟩ := clash_loop (m := m) (ih := ih) (S := S) (b := b) (c := c) (R := R) rest (done ++ [(s, t, w)]) (some (.int done.length)) (some (enc s)) (some (enc t)) (some (encW w)) (by simpa using h)
      refine ⟨f, y1, y2, y3, y4, ?_, ?_⟩
      · rw [← e1]
        simp [-yIf_ap, clash_body, q]
      · rcases e2 with ⟨h1, h2⟩ | h2
        · left
          refine ⟨h1, fun x hx => ?_⟩
          rcases List.mem_cons.mp hx with rfl | hx
          · simpa using q
          · exact h2 x hx
        · exact .inr h2
theorem clash_ok {m : Nat} {ih : IH} {S : List Stp} {L : List (Tm × Nat)} {R : IH} : ∃ d, (progs (m + 2)).1 .Closure_clash [.obj ih.length] (hc ih S L R) = some (d, hc ih S L R) ∧
    ((d = .non ∧ NoClash S) ∨ ∃ (i : Nat) (x : Stp), S[i]? = some x ∧ clsh x.1 x.2.1 = true ∧ d = .int i) := by
  obtain ⟨f, y1, y2, y3, y4, e1, e2⟩ := clash_loop (m := m) (ih := ih) (S := S) (b := kvP (prs S)) (c := kvL ih.length L) (R := R) S [] none none none none rfl
  simp only [List.length_nil] at e1
  have e3 : ∀ d, (match f with
    | .rt d => some d
    | .nx => some .non
    | _ => none) = some d → (progs (m + 2)).1 .Closure_clash [.obj ih.length] (hc ih S L R) = some (d, hc ih S L R) := fun d hd => by
    rw [pg, body, r_Closure_clash, bodyM_ap]
    simp only [hc]
    simp [-yIf_ap, -yFor_ap]
    rw [yFor_ap, xSrcN_run (l := [.obj (ih.length + 1)]) (by simp; rfl) seq_hq1]
    simp only [Option.bind_some]
    rw [e1]
    cases f <;> simp at hd <;> subst hd <;> simp
  rcases e2 with ⟨rfl, h⟩ | ⟨i, x, h1, h2, rfl⟩
  · refine ⟨.non, e3 _ rfl, .inl ⟨rfl, fun x hx ha hb => ?_⟩⟩
    have := h x hx
    simp [clsh, ha, hb] at this
    exact this
  · exact ⟨.int i, e3 _ rfl, .inr ⟨i, x, h1, h2, rfl⟩⟩
end Gh.K67
end
section
set_option Elab.async false
set_option linter.all false
set_option maxRecDepth 100000
/-! k67: the steps that some steps rest on. -/
namespace Gh.K67
open PySem PySem.Spec PyProof.Rows L2 Tm
theorem kvV_lookO {acc : List Nat} {x : Nat} : dlook (kvV acc) (.num x) = if x ∈ acc then some (.bl true) else none := by
  rw [kvV, dlook_kvs (kk := fun x : Nat => .num x) fun x _ => hkeyI]
  induction acc with
  | nil => simp
  | cons y l ih =>
    rw [List.find?_cons]
    by_cases e : x = y
    · subst e
      simp
    · have e2 : decide (NestedKey.num (y : Int) = .num (x : Int)) = false := by
        simp
        omega
      rw [e2]
      simp only
      rw [ih]
      simp [e]
theorem kvV_len {acc : List Nat} : (kvV acc).length = acc.length := kvs_len
theorem hq_apps {ih r : IH} {a : List D} {b c : List (D × D)} {R : IH} : hq ih a b c R ++ r = hq ih a b c (R ++ r) := by simp [hq]
theorem refs_len (w : Why) : (refs w).length ≤ 2 := by cases w <;> simp [refs]
abbrev cρ (ih : IH) (R : IH) (l : D) (x4 x5 : Option D) : Env := [some (.obj (ih.length + 1)), some l, some (.obj (ih.length + (4 + R.length))), some (.obj (ih.length + (4 + (R.length + 1)))), x4, x5, none, none, none]
theorem cut_loop {m : Nat} {ih : IH} {S : List Stp} {b c : List (D × D)} {R : IH} {l : D} (hrf : ∀ (i : Nat) (x : Stp), S[i]? = some x → ∀ r ∈ refs x.2.2, r < i) (hz : S.length ≤ 1000000) :
    ∀ (N : Nat) (st acc : List Nat) (x4 x5 : Option D), 3 * (S.length - acc.length) + st.length < N → (∀ a ∈ st, a < S.length) → acc.Nodup → (∀ a ∈ acc, a < S.length) → (∀ a ∈ acc, ∀ x : Stp, S[a]? = some x → ∀ r ∈ refs x.2.2, r ∈ acc ∨ r ∈ st) → 3 * (S.length - acc.length) + st.length ≤ 10000000 →
    ∃ acc' y4 y5, whileN (tTru (xVar 3)) (ySeq (ySet 4 (xMethC isLstH fPop (xVar 3) xNil)) (yIf (tVal (xBin fNotInD (xVar 4) (xVar 2))) (ySeq (yAsg (xC (.bl true)) (gSb (xVar 2) (xVar 4) wSetD)) (ySeq (ySet 5 (xBin fIx (xBin fIx (xVar 0) (xVar 4)) (xC (.int 2)))) (ySeq (yIf (tOr2 (tVal (xBin fEq (xBin fIx (xVar 5) (xC (.int 0))) (xC (.str "turned")))) (tVal (xBin fEq (xBin fIx (xVar 5) (xC (.int 0))) (xC (.str "parts"))))) (yExpr (xMethC isLstH fAppend (xVar 3) (xCons (xBin fIx (xVar 5) (xC (.int 1))) xNil))) yNext) (yIf (tVal (xBin fEq (xBin fIx (xVar 5) (xC (.int 0))) (xC (.str "chained")))) (yExpr (xMethC isLstH fExtend (xVar 3) (xCons (xSl (xVar 5) (xPart (xC (.int 1))) xNoPart) xNil))) yNext)))) yNext)) N
        (cρ ih R l x4 x5) (hq ih (S.map encS) b c (R ++ [.dct (kvV acc), .lst (intL st.reverse)])) = some (.nx, cρ ih R l y4 y5, hq ih (S.map encS) b c (R ++ [.dct (kvV acc'), .lst []])) ∧
      acc'.Nodup ∧ (∀ a ∈ acc', a < S.length) ∧ (∀ a, a ∈ acc ∨ a ∈ st → a ∈ acc') ∧ ∀ a ∈ acc', ∀ x : Stp, S[a]? = some x → ∀ r ∈ refs x.2.2, r ∈ acc'
  | 0, _, _, _, _, h, _, _, _, _, _ => by omega
  | N + 1, [], acc, x4, x5, h, h1, h2, h3, h4, h5 => by
    refine ⟨acc, x4, x5, ?_, h2, h3, by simp, fun a ha x hx r hr => by simpa using h4 a ha x hx r hr⟩
    rw [whileN]
    simp [intL]
  | N + 1, a :: st, acc, x4, x5, h, h1, h2, h3, h4, h5 => by
    rw [whileN]
    have hlt := h1 a (List.mem_cons_self ..)
    simp only [List.length_cons] at h h5
    have er : intL (a :: st).reverse = intL st.reverse ++ [.int a] := by simp [intL]
    by_cases q : a ∈ acc
    · obtain ⟨acc', y4, y5, e1, e2, e3, e4, e5⟩ := cut_loop (m := m) (ih := ih) (b := b) (c := c) (R := R) (l := l) hrf hz N st acc (some (.int a)) x5 (by omega) (fun x hx => h1 x (List.mem_cons_of_mem _ hx)) h2 h3 (fun x hx y hy r hr => by
        rcases h4 x hx y hy r hr with z | z
        · exact .inl z
        · rcases List.mem_cons.mp z with rfl | z
          · exact .inl q
          · exact .inr z) (by omega)
      refine ⟨acc', y4, y5, ?_, e2, e3, fun x hx => e4 x ?_, e5⟩
      · rw [← e1, er]
        simp [q, kvV_lookO]
      · rcases hx with z | z
        · exact .inl z
        · rcases List.mem_cons.mp z with rfl | z
          · exact .inl q
          · exact .inr z
    · have hy : S[a]? = some S[a] := List.getElem?_eq_getElem hlt
      generalize S[a] = y at hy
      obtain ⟨s, t, w⟩ := y
      have e5' := get_encS hy
      have hrw : ∀ r ∈ refs w, r < a := hrf a _ hy
      have hd : dd acc [a] = acc ++ [a] := by simp [dd, q]
      have hnd : (acc ++ [a]).Nodup := by
        rw [List.nodup_append]
        exact ⟨h2, by simp, fun x hx y hy e => by simp at hy; subst hy; exact q (e ▸ hx)⟩
      have hin : ∀ x ∈ acc ++ [a], x < S.length := fun x hx => by
        rcases List.mem_append.mp hx with z | z
        · exact h3 x z
        · simp at z
          rw [z]
          exact hlt
      have hal : acc.length + 1 ≤ S.length := by
        have := nodup_len (l := acc ++ [a]) (m := List.range S.length) hnd fun x hx => List.mem_range.mpr (hin x hx)
        simpa using this
      have hw := refs_len w
      obtain ⟨acc', y4, y5, e1, e2, e3, e4, e5⟩ := cut_loop (m := m) (ih := ih) (b := b) (c := c) (R := R) (l := l) hrf hz N ((refs w).reverse ++ st) (acc ++ [a]) (some (.int a)) (some (encW w)) (by simp; omega) (fun x hx => by
        rcases List.mem_append.mp hx with z | z
        · exact Nat.lt_trans (hrw x (by simpa using z)) hlt
        · exact h1 x (List.mem_cons_of_mem _ z)) hnd hin (fun x hx y' hy' r hr => by
        rcases List.mem_append.mp hx with z | z
        · rcases h4 x z y' hy' r hr with z2 | z2
          · exact .inl (by simp [z2])
          · rcases List.mem_cons.mp z2 with rfl | z2
            · exact .inl (by simp)
            · exact .inr (by simp [z2])
        · simp at z
          subst z
          rw [hy] at hy'
          cases hy'
          exact .inr (by simp; left; exact hr)) (by simp; omega)
      refine ⟨acc', y4, y5, ?_, e2, e3, fun x hx => e4 x ?_, e5⟩
      · rw [← e1, er]
        have hz1 : (kvV acc).length < 16777216 := by
          rw [kvV_len]
          omega
        have hz2 : (intL st.reverse).length + 2 ≤ 16777216 := by
          simp [intL]
          omega
        have hz3 : (intL st.reverse).length < 16777216 := by omega
        have hz4 : st.length ≤ 16777214 := by omega
        cases w <;> simp [-atD_nat, q, kvV_lookO, hz1, hz2, hz3, hz4, kvV_put, hd, e5', encS, encW, refs, sz] <;> simp [intL, hz4]
      · rcases hx with z | z
        · exact .inl (by simp [z])
        · rcases List.mem_cons.mp z with rfl | z
          · exact .inl (by simp)
          · exact .inr (by simp [z])

theorem num_loop {h : IH} {ρ : Env} {ord : List Nat} (hr : ρ.length = 9) (hn : ord.Nodup) (hz : ord.length ≤ 1000000) : ∀ (l done : List Nat), done ++ l = ord →
    loopC (fun _ => true) (gTp 2 (gsCons (gNm 8) (gsCons (gNm 4) gsNil))) tTrue (emD (xVar 4) (xVar 8)) ρ (enumL done.length (intL l)) h (kvN done) = some (kvN ord, h)
  | [], done, e => by
    simp at e
    subst e
    simp [intL, enumL]
  | x :: l, done, e => by
    have g := num_loop (h := h) hr hn hz l (done ++ [x]) (by simpa using e)
    have hx : x ∉ done := by
      intro hx
      rw [← e, List.nodup_append] at hn
      exact hn.2.2 x hx x (List.mem_cons_self ..) rfl
    have hl : (kvN done).length < 16777216 := by
      rw [kvN_len]
      have := congrArg List.length e
      simp at this
      omega
    have e4 : enumL done.length (intL (x :: l)) = .tup [.int done.length, .int x] :: enumL (done ++ [x]).length (intL l) := by
      simp [enumL, intL]
    rw [e4, loopC_cons]
    have h8 : 8 < ρ.length := by omega
    have h4 : 4 < ρ.length := by omega
    simp [h8, h4, hl, sz, kvN_put hx]
    simpa using g
theorem kvN_in {ord : List Nat} {x : Nat} (h : x ∈ ord) : dlook (kvN ord) (.num x) = some (.int (ord.idxOf x : Nat)) := by
  rw [kvN_look, if_pos h]
theorem renumbered_ok {m : Nat} {h : IH} {x : Stp} {ord : List Nat} (hr : ∀ r ∈ refs x.2.2, r ∈ ord) (n : Nat) : ∃ d, (progs (m + 1)).1 .renumbered [encS x, .dct ((kvN ord).map (·.1)) ((kvN ord).map (·.2))] h = some (d, h) ∧ clean n d = true := by
  obtain ⟨s, t, w⟩ := x
  cases w with
  | gv i =>
    refine ⟨.tup [enc s, enc t, encW (.gv i)], ?_, by simp [clean, cleans, clean_enc, encW]⟩
    rw [pg, body, r_renumbered, bodyM_ap]
    simp [encS, encW, sz]
  | tn i =>
    refine ⟨.tup [enc s, enc t, encW (.tn (ord.idxOf i))], ?_, by simp [clean, cleans, clean_enc, encW]⟩
    have h1 := kvN_in (hr i (by simp [refs]))
    rw [pg, body, r_renumbered, bodyM_ap]
    simp [encS, encW, sz, Tm.zip_fst_snd, h1]
  | pt i j =>
    refine ⟨.tup [enc s, enc t, encW (.pt (ord.idxOf i) j)], ?_, by simp [clean, cleans, clean_enc, encW]⟩
    have h1 := kvN_in (hr i (by simp [refs]))
    rw [pg, body, r_renumbered, bodyM_ap]
    simp [encS, encW, sz, Tm.zip_fst_snd, h1]
  | ch i j =>
    refine ⟨.tup [enc s, enc t, encW (.ch (ord.idxOf i) (ord.idxOf j))], ?_, by simp [clean, cleans, clean_enc, encW]⟩
    have h1 := kvN_in (hr i (by simp [refs]))
    have h2 := kvN_in (hr j (by simp [refs]))
    rw [pg, body, r_renumbered, bodyM_ap]
    simp [encS, encW, sz, Tm.zip_fst_snd, h1, h2]
theorem ren_loop {m n : Nat} {S : List Stp} {ih : IH} {b c : List (D × D)} {R : IH} {ord : List Nat} {ρ : Env} (hz : ord.length ≤ 1000000) (h0 : ρ[0]? = some (some (.obj (ih.length + 1)))) (h7 : ρ[7]? = some (some (.dct ((kvN ord).map (·.1)) ((kvN ord).map (·.2))))) (h4 : 4 < ρ.length)
    (hc : ∀ a ∈ ord, ∃ x : Stp, S[a]? = some x ∧ ∀ r ∈ refs x.2.2, r ∈ ord) : ∀ (l : List Nat) (acc : List D), acc.length + l.length = ord.length → (∀ a ∈ l, a ∈ ord) → cleans n acc = true →
    ∃ r, loopC (fun _ => true) (gNm 4) tTrue (emL (xArgs ((progs (m + 1)).1 .renumbered) (xCons (xBin fIx (xVar 0) (xVar 4)) (xCons (xVar 7) xNil)))) ρ (intL l) (hq ih (S.map encS) b c R) acc = some (r, hq ih (S.map encS) b c R) ∧ cleans n r = true
  | [], acc, e, hl, ha => ⟨acc, by simp [intL], ha⟩
  | a :: l, acc, e, hl, ha => by
    obtain ⟨x, hx, hr⟩ := hc a (hl a (List.mem_cons_self ..))
    obtain ⟨d, hd, hcl⟩ := renumbered_ok (m := m) (h := hq ih (S.map encS) b c R) hr n
    have hap : cleans n (acc ++ [d]) = true := by
      have : ∀ (l : List D), cleans n l = true → cleans n (l ++ [d]) = true := by
        intro l
        induction l with
        | nil => simp [cleans, hcl]
        | cons y l ih =>
          intro h
          rw [cleans, Bool.and_eq_true] at h
          rw [List.cons_append, cleans, h.1, ih h.2]
          rfl
      exact this acc ha
    simp only [List.length_cons] at e
    obtain ⟨r, hr1, hr2⟩ := ren_loop (m := m) (n := n) (ih := ih) (b := b) (c := c) (R := R) hz h0 h7 h4 hc l (acc ++ [d]) (by simp; omega) (fun y hy => hl y (List.mem_cons_of_mem _ hy)) hap
    refine ⟨r, ?_, hr2⟩
    have e4 : intL (a :: l) = .int a :: intL l := rfl
    have e5 := get_encS hx
    have hlt : acc.length < 16777216 := by omega
    have h40 : (ρ.set 4 (some (.int a)))[0]? = some (some (.obj (ih.length + 1))) := by rw [get_set_ne (by omega), h0]
    have h47 : (ρ.set 4 (some (.int a)))[7]? = some (some (.dct ((kvN ord).map (·.1)) ((kvN ord).map (·.2)))) := by rw [get_set_ne (by omega), h7]
    have h44 : (ρ.set 4 (some (.int a)))[4]? = some (some (.int a)) := by simp [h4]
    rw [e4, loopC_cons]
    simp only [if_true, gNm_ap, Option.bind_some, tTrue_ap, emL_ap, xArgs_ap, xCons_ap, xBin_ap, xVar_ap, h40, h44, h47, fIx_hq1, e5, Option.map_some, xNil_ap, hd, sz, hlt, hr1]
theorem last_loop {h : IH} {ord : List Nat} {ρ : Env} {n : Nat} (hz : ord.length ≤ 1000000) (h7 : ρ[7]? = some (some (.dct ((kvN ord).map (·.1)) ((kvN ord).map (·.2))))) (h4 : 4 < ρ.length) : ∀ (l : List Nat) (acc : List D), acc.length + l.length ≤ 1000000 → (∀ a ∈ l, a ∈ ord) → cleans n acc = true →
    ∃ r, loopC (fun _ => true) (gNm 4) tTrue (emL (xBin fIx (xVar 7) (xVar 4))) ρ (intL l) h acc = some (r, h) ∧ cleans n r = true
  | [], acc, e, hl, ha => ⟨acc, by simp [intL], ha⟩
  | a :: l, acc, e, hl, ha => by
    have hap : cleans n (acc ++ [.int (ord.idxOf a : Nat)]) = true := by
      have : ∀ (l : List D), cleans n l = true → cleans n (l ++ [.int (ord.idxOf a : Nat)]) = true := by
        intro l
        induction l with
        | nil => simp [cleans, clean]
        | cons y l ih =>
          intro h
          rw [cleans, Bool.and_eq_true] at h
          rw [List.cons_append, cleans, h.1, ih h.2]
          rfl
      exact this acc ha
    simp only [List.length_cons] at e
    obtain ⟨r, hr1, hr2⟩ := last_loop (h := h) (n := n) hz h7 h4 l (acc ++ [.int (ord.idxOf a : Nat)]) (by simp; omega) (fun y hy => hl y (List.mem_cons_of_mem _ hy)) hap
    refine ⟨r, ?_, hr2⟩
    have e4 : intL (a :: l) = .int a :: intL l := rfl
    have hlt : acc.length < 16777216 := by omega
    have h47 : (ρ.set 4 (some (.int a)))[7]? = some (some (.dct ((kvN ord).map (·.1)) ((kvN ord).map (·.2)))) := by rw [get_set_ne (by omega), h7]
    have h44 : (ρ.set 4 (some (.int a)))[4]? = some (some (.int a)) := by simp [h4]
    have h1 := kvN_in (hl a (List.mem_cons_self ..))
    rw [e4, loopC_cons]
    simp only [if_true, gNm_ap, Option.bind_some, tTrue_ap, emL_ap, xBin_ap, xVar_ap, h44, h47, fIx_dctv, Tm.zip_fst_snd, hkeyI, h1, Option.map_some, sz, hlt, hr1]
end Gh.K67
end
section
set_option Elab.async false
set_option linter.all false
set_option maxRecDepth 100000
/-! k67: the steps that some steps rest on: the whole. -/
namespace Gh.K67
open PySem PySem.Spec PyProof.Rows L2 Tm
mutual
theorem clean_mono {n m : Nat} (h : n ≤ m) : ∀ d : D, clean n d = true → clean m d = true
  | .obj j, q => by
    simp [clean] at q ⊢
    omega
  | .tup ds, q => by
    rw [clean] at q ⊢
    exact cleans_mono h ds q
  | .tupx ds, q => by
    rw [clean] at q ⊢
    exact cleans_mono h ds q
  | .lst ds, q => by
    rw [clean] at q ⊢
    exact cleans_mono h ds q
  | .dct ks vs, q => by
    rw [clean, Bool.and_eq_true] at q ⊢
    exact ⟨cleans_mono h ks q.1, cleans_mono h vs q.2⟩
  | .non, _ => rfl
  | .bl _, _ => rfl
  | .int _, _ => rfl
  | .str _, _ => rfl
theorem cleans_mono {n m : Nat} (h : n ≤ m) : ∀ ds : List D, cleans n ds = true → cleans m ds = true
  | [], _ => rfl
  | d :: ds, q => by
    rw [cleans, Bool.and_eq_true] at q ⊢
    exact ⟨clean_mono h d q.1, cleans_mono h ds q.2⟩
end
theorem kvV_keys {acc : List Nat} : asInts ((kvV acc).map (·.1)) = some (acc.map fun x : Nat => (x : Int)) := by
  have : (kvV acc).map (·.1) = acc.map fun x : Nat => D.int (x : Int) := by simp [kvV, kvs, List.map_map, Function.comp_def]
  rw [this, asInts_map]
theorem cut_ok {m : Nat} {ih : IH} {S : List Stp} {L : List (Tm × Nat)} {R : IH} {last : D} {l : List Nat} (hrf : ∀ (i : Nat) (x : Stp), S[i]? = some x → ∀ r ∈ refs x.2.2, r < i) (hz : S.length ≤ 1000000) (hI : ∀ h, itemsOf last h = some (intL l)) (hA : ∀ h, srcAny last h = some ⟨intL l, fun _ => true⟩) (hl : ∀ a ∈ l, a < S.length) (hlz : l.length ≤ 1000000) :
    ∃ a b, (progs (m + 2)).1 .cut_steps [.obj (ih.length + 1), last] (hc ih S L R) = some (.tup [.tup a, .tup b], hc ih S L R) ∧ cleans 0 a = true ∧ cleans 0 b = true := by
  obtain ⟨acc, y4, y5, e1, e2, e3, e4, e5⟩ := cut_loop (m := m) (ih := ih) (b := kvP (prs S)) (c := kvL ih.length L) (R := R) (l := last) hrf hz (3 * S.length + l.length + 1) l.reverse [] none none (by simp <;> omega) (fun a ha => hl a (by simpa using ha)) List.nodup_nil (by simp) (by simp) (by simp <;> omega)
  have e6 := yWhile_of e1
  have hv : kvV [] = [] := rfl
  rw [List.reverse_reverse, hv] at e6
  generalize ho : acc.mergeSort (fun a b => decide (a ≤ b)) = ord at *
  have hmem : ∀ a, a ∈ ord ↔ a ∈ acc := fun a => by rw [← ho, List.mem_mergeSort]
  have hnd : ord.Nodup := by
    rw [← ho]
    exact (List.mergeSort_perm ..).nodup_iff.mpr e2
  have hol : ord.length ≤ 1000000 := by
    have h1 : ord.length = acc.length := by rw [← ho, List.length_mergeSort]
    have h2 := nodup_len (l := acc) (m := List.range S.length) e2 fun x hx => List.mem_range.mpr (e3 x hx)
    simp at h2
    omega
  have hclosed : ∀ a ∈ ord, ∃ x : Stp, S[a]? = some x ∧ ∀ r ∈ refs x.2.2, r ∈ ord := fun a ha => by
    have ha' := (hmem a).mp ha
    have hlt := e3 a ha'
    refine ⟨S[a], List.getElem?_eq_getElem hlt, fun r hr => (hmem r).mpr (e5 a ha' _ (List.getElem?_eq_getElem hlt) r hr)⟩
  have hlast : ∀ a ∈ l, a ∈ ord := fun a ha => (hmem a).mpr (e4 a (.inr (by simpa using ha)))
  have hsort : sortI (acc.map fun x : Nat => (x : Int)) = ord.map fun x : Nat => (x : Int) := by rw [sortI_cast, ho]
  have hmi : (ord.map fun x : Nat => (x : Int)).map D.int = intL ord := by simp [intL, List.map_map, Function.comp_def]
  let n0 := 0
  let Hf := hq ih (S.map encS) (kvP (prs S)) (kvL ih.length L) (R ++ [.dct (kvV acc), .lst []])
  let ρ7 : Env := [some (.obj (ih.length + 1)), some last, some (.obj (ih.length + (4 + R.length))), some (.obj (ih.length + (4 + (R.length + 1)))), y4, y5, some (.lst (intL ord)), some (.dct ((kvN ord).map (·.1)) ((kvN ord).map (·.2))), none]
  obtain ⟨r1, hr1, hc1⟩ := ren_loop (m := m) (n := n0) (S := S) (ih := ih) (b := kvP (prs S)) (c := kvL ih.length L) (R := R ++ [.dct (kvV acc), .lst []]) (ord := ord) (ρ := ρ7.set 4 none) hol rfl rfl (by simp [ρ7]) hclosed ord [] (by simp) (fun _ h => h) rfl
  obtain ⟨r2, hr2, hc2⟩ := last_loop (h := Hf) (ord := ord) (ρ := ρ7.set 4 none) (n := n0) hol rfl (by simp [ρ7]) l [] (by simpa using hlz) hlast rfl
  have hn := fun ρ hρ => num_loop (h := Hf) (ρ := ρ) (ord := ord) hρ hnd hol ord [] rfl
  have hk0 : kvN [] = [] := rfl
  rw [hk0] at hn
  refine ⟨r1, r2, ?_, hc1, hc2⟩
  rw [pg, body, r_cut_steps]
  refine pureM_of (r := [.dct (kvV acc), .lst []]) ?_ (by
    simp only [clean, cleans, Bool.and_true, Bool.and_eq_true]
    exact ⟨cleans_mono (Nat.zero_le _) _ hc1, cleans_mono (Nat.zero_le _) _ hc2⟩)
  rw [bodyM_ap]
  have e7 : fListH [last] (hq ih (S.map encS) (kvP (prs S)) (kvL ih.length L) (R ++ [.dct []])) = some (.obj (ih.length + (4 + (R.length + 1))), hq ih (S.map encS) (kvP (prs S)) (kvL ih.length L) (R ++ [.dct [], .lst (intL l)])) := by
    simp only [fListH, hI, Option.map_some]
    simp [hq_apps]
  simp only [hc]
  simp [hq_apps, e7]
  rw [e6]
  simp only [List.length_nil] at hn
  simp [kvV_keys, hsort, hmi, srcE1_lst, sz]
  have h1 := hn [some (.obj (ih.length + 1)), some last, some (.obj (ih.length + (4 + R.length))), some (.obj (ih.length + (4 + (R.length + 1)))), none, y5, some (.lst (intL ord)), none, none] rfl
  have h2 := hr1
  have h3 := hr2
  simp [ρ7] at h2 h3
  simp [h1, h2, h3, hA, Hf]
end Gh.K67
end
section
set_option Elab.async false
set_option linter.all false
set_option maxRecDepth 100000
/-! k67: edges. -/
namespace Gh.K67
open PySem PySem.Spec PyProof.Rows L2 Tm
theorem size_dep : ∀ t : Tm, size t + 1 ≤ 2 ^ (t.dep + 1)
  | .v _ => by simp [size, dep]
  | .k _ => by simp [size, dep]
  | .u _ t => by
    have := size_dep t
    simp only [size, dep]
    rw [Nat.pow_succ]
    omega
  | .b _ s t => by
    have h1 := size_dep s
    have h2 := size_dep t
    simp only [size, dep]
    rw [Nat.pow_succ]
    have a1 : 2 ^ (s.dep + 1) ≤ 2 ^ (max s.dep t.dep + 1) := Nat.pow_le_pow_right (by omega) (by omega)
    have a2 : 2 ^ (t.dep + 1) ≤ 2 ^ (max s.dep t.dep + 1) := Nat.pow_le_pow_right (by omega) (by omega)
    omega
theorem size_7 {t : Tm} (h : t.dep ≤ 7) : size t ≤ 255 := by
  have h1 := size_dep t
  have h2 : 2 ^ (t.dep + 1) ≤ 2 ^ 8 := Nat.pow_le_pow_right (by omega) (by omega)
  omega
theorem vrs_len {t : Tm} : (vrs t).length ≤ size t := by
  rw [vrs, List.length_mergeSort]
  have h1 := dd_len (xs := (occ t).reverse) (acc := [])
  have h2 := size_len (t := t)
  simp at h1
  omega
/-- the edges of a step -/
def ed1 (i : Nat) (x : Stp) (z : Nat) : List (Nat × Nat) := if x.1 = .v z ∧ isV x.2.1 = false then (vrs x.2.1).map fun y => (i, y) else []
def edf (z : Nat) : Nat → List Stp → List (Nat × Nat)
  | _, [] => []
  | i, x :: S => ed1 i x z ++ edf z (i + 1) S
theorem edf_snoc {z : Nat} {x : Stp} : ∀ {S : List Stp} {i : Nat}, edf z i (S ++ [x]) = edf z i S ++ ed1 (i + S.length) x z
  | [], i => by simp [edf]
  | y :: S, i => by
    rw [List.cons_append, edf, edf_snoc, edf, List.append_assoc]
    congr 3
    simp
    omega
theorem edf_mem {z : Nat} {p : Nat × Nat} : ∀ {S : List Stp} {i : Nat}, p ∈ edf z i S ↔ ∃ (j : Nat) (x : Stp), S[j]? = some x ∧ p.1 = i + j ∧ x.1 = .v z ∧ isV x.2.1 = false ∧ p.2 ∈ occ x.2.1
  | [], i => by simp [edf]
  | y :: S, i => by
    rw [edf, List.mem_append, edf_mem]
    constructor
    · rintro (h | ⟨j, x, h1, h2, h3⟩)
      · unfold ed1 at h
        split at h
        · rename_i q
          obtain ⟨w, hw, rfl⟩ := List.mem_map.mp h
          exact ⟨0, y, rfl, by simp, q.1, q.2, mem_vrs.mp hw⟩
        · cases h
      · exact ⟨j + 1, x, by simpa using h1, by omega, h3⟩
    · rintro ⟨j, x, h1, h2, h3, h4, h5⟩
      cases j with
      | zero =>
        simp at h1
        subst h1
        left
        unfold ed1
        rw [if_pos ⟨h3, h4⟩]
        exact List.mem_map.mpr ⟨p.2, mem_vrs.mpr h5, by rw [show i = p.1 by omega]⟩
      | succ j => exact .inr ⟨j, x, by simpa using h1, by omega, h3, h4, h5⟩
theorem ed_iff {S : List Stp} {z y : Nat} : Ed S z y ↔ ∃ i, (i, y) ∈ edf z 0 S := by
  constructor
  · rintro ⟨t, h1, h2, h3⟩
    obtain ⟨x, hx, e⟩ := List.mem_map.mp h1
    obtain ⟨j, hj⟩ := List.mem_iff_getElem?.mp hx
    simp only [Prod.mk.injEq] at e
    exact ⟨j, edf_mem.mpr ⟨j, x, hj, by simp, e.1, by rw [e.2]; exact h2, by rw [e.2]; exact h3⟩⟩
  · rintro ⟨i, h⟩
    obtain ⟨j, x, h1, h2, h3, h4, h5⟩ := edf_mem.mp h
    exact ⟨x.2.1, List.mem_map.mpr ⟨x, List.mem_of_getElem? h1, by rw [h3]⟩, h4, h5⟩
theorem edf_len {z : Nat} : ∀ {S : List Stp} {i : Nat}, (∀ x ∈ S, x.2.1.dep ≤ 7) → (edf z i S).length ≤ 255 * (told S z).length
  | [], i, _ => by simp [edf]
  | x :: S, i, h => by
    have h1 := edf_len (z := z) (S := S) (i := i + 1) fun y hy => h y (List.mem_cons_of_mem _ hy)
    have h2 := vrs_len (t := x.2.1)
    have h3 := size_7 (h x (List.mem_cons_self ..))
    rw [edf, List.length_append]
    unfold told at h1 ⊢
    rw [List.filter_cons]
    by_cases e : x.1 = .v z
    · simp only [e, decide_true, if_true, List.map_cons, List.length_cons]
      have : (ed1 i x z).length ≤ 255 := by
        unfold ed1
        split
        · rw [List.length_map]
          omega
        · simp
      omega
    · have : ed1 i x z = [] := by simp [ed1, e]
      rw [this]
      simpa [e] using h1
theorem told_len {U : List Tm} {S : List Stp} (g : Good U S) (z : Nat) : (told S z).length ≤ U.length := by
  refine nodup_len ?_ fun t ht => ?_
  · have h1 := g.nd
    unfold prs at h1
    unfold told
    have h2 := List.pairwise_map.mp h1
    refine List.pairwise_map.mpr ?_
    have h3 : List.Pairwise (fun a b : Stp => (a.1, a.2.1) ≠ (b.1, b.2.1)) (S.filter fun s => decide (s.1 = .v z)) := h2.sublist (List.filter_sublist ..)
    refine h3.imp_of_mem fun {a b} ha hb hne e => hne ?_
    have q1 := (List.mem_filter.mp ha).2
    have q2 := (List.mem_filter.mp hb).2
    simp at q1 q2
    rw [q1, q2, e]
  · obtain ⟨x, hx, e⟩ := List.mem_map.mp (told_mem.mp ht)
    simp only [Prod.mk.injEq] at e
    rw [← e.2]
    exact (g.inU x hx).2
def encE (l : List (Nat × Nat)) : List D := l.map fun p => .tup [.int p.1, .int p.2]
/-- the dict of edges, in the making -/
def kvE (n r : Nat) (E : List (Nat × Nat)) : List (D × D) := kvs (fun p : Nat × Nat => .int p.1) (fun p => .obj (n + (4 + (r + (p.2 + 1))))) E
structure EOk (S : List Stp) (E : List (Nat × Nat)) (Q : IH) : Prop where
  get : ∀ z j, (z, j) ∈ E → Q[j]? = some (.lst (encE (edf z 0 S)))
  nd : (E.map (·.1)).Nodup
  ndj : (E.map (·.2)).Nodup
  all : ∀ z, z ∉ E.map (·.1) → edf z 0 S = []
  len : E.length ≤ S.length
theorem kvE_look {n r : Nat} {E : List (Nat × Nat)} {z : Nat} : dlook (kvE n r E) (.num z) = (E.lookup z).map fun j => .obj (n + (4 + (r + (j + 1)))) := by
  rw [kvE, dlook_kvs (kk := fun p : Nat × Nat => .num p.1) fun p _ => hkeyI]
  induction E with
  | nil => rfl
  | cons p E ih =>
    obtain ⟨y, j⟩ := p
    rw [List.find?_cons, List.lookup]
    by_cases e : z = y
    · subst e
      simp
    · have e1 : (z == y) = false := by simpa using e
      have e2 : decide (NestedKey.num (y : Int) = .num (z : Int)) = false := by
        simp
        omega
      rw [e1, e2]
      exact ih
theorem lookup_mem {α : Type} {E : List (Nat × α)} {z : Nat} {j : α} (h : E.lookup z = some j) : (z, j) ∈ E := by
  induction E with
  | nil => simp at h
  | cons p E ih =>
    obtain ⟨y, k⟩ := p
    rw [List.lookup] at h
    by_cases e : z = y
    · subst e
      simp at h
      rw [h]
      exact List.mem_cons_self ..
    · have e1 : (z == y) = false := by simpa using e
      rw [e1] at h
      exact List.mem_cons_of_mem _ (ih h)
theorem lookup_not {α : Type} {E : List (Nat × α)} {z : Nat} (h : E.lookup z = none) : z ∉ E.map (·.1) := by
  induction E with
  | nil => simp
  | cons p E ih =>
    obtain ⟨y, k⟩ := p
    rw [List.lookup] at h
    by_cases e : z = y
    · subst e
      simp at h
    · have e1 : (z == y) = false := by simpa using e
      rw [e1] at h
      simp [e]
      simpa using ih h
theorem pair_loop {h : IH} {ρ : Env} {i : Nat} (h2 : ρ[2]? = some (some (.int i))) (h6 : 6 < ρ.length) : ∀ (l : List Nat) (acc : List D), acc.length + l.length ≤ 1000000 →
    loopC (fun _ => true) (gNm 6) tTrue (emL (xArgs fTup (xCons (xVar 2) (xCons (xVar 6) xNil)))) ρ (intL l) h acc = some (acc ++ encE (l.map fun y => (i, y)), h)
  | [], acc, _ => by simp [intL, encE]
  | y :: l, acc, hz => by
    simp only [List.length_cons] at hz
    have g := pair_loop (h := h) h2 h6 l (acc ++ [.tup [.int i, .int y]]) (by simp; omega)
    have e4 : intL (y :: l) = .int y :: intL l := rfl
    have h42 : (ρ.set 6 (some (.int y)))[2]? = some (some (.int i)) := by rw [get_set_ne (by omega), h2]
    have hlt : acc.length < 16777216 := by omega
    rw [e4, loopC_cons]
    simp [h42, h6, sz, hlt]
    rw [g]
    simp [encE]

abbrev eρ (ih R : IH) (x2 x3 x4 x5 : Option D) : Env := [some (.obj ih.length), some (.obj (ih.length + (4 + R.length))), x2, x3, x4, x5, none]
theorem edges_body {m : Nat} {ih : IH} {U : List Tm} {S done : List Stp} {a : List D} {b c : List (D × D)} {R : IH} {E : List (Nat × Nat)} {Q : IH} {x : Stp} (cx : Cx U) (g : Good U S) (hx : S[done.length]? = some x) (hE : EOk done E Q) (hdone : done ++ [x] <+: S) :
    ∃ E' Q', EOk (done ++ [x]) E' Q' ∧ (yIf (tAnd2 (tVal (xArgs ((progs (m + 2)).1 .is_variable) (xCons (xVar 3) xNil))) (tNot2 (tVal (xArgs ((progs (m + 2)).1 .is_variable) (xCons (xVar 4) xNil))))) (yExpr (xMethC isLstH fExtend (xMethC isDctA fSetd (xVar 1) (xCons (xVar 3) (xCons (xArgs fLstH xNil) xNil))) (xCons (xCompL (xSrc srcAny (xArgs ((progs (m + 2)).1 .variables_of) (xCons (xVar 4) xNil))) [6] (gNm 6) tTrue (emL (xArgs fTup (xCons (xVar 2) (xCons (xVar 6) xNil))))) xNil))) yNext)
      (eρ ih R (some (.int done.length)) (some (enc x.1)) (some (enc x.2.1)) (some (encW x.2.2))) (hq ih a b c (R ++ .dct (kvE ih.length R.length E) :: Q)) = some (.nx, eρ ih R (some (.int done.length)) (some (enc x.1)) (some (enc x.2.1)) (some (encW x.2.2)), hq ih a b c (R ++ .dct (kvE ih.length R.length E') :: Q')) := by
  obtain ⟨s, t, w⟩ := x
  simp only
  have hU := g.inU _ (List.mem_of_getElem? hx)
  simp only at hU
  have hsn : ∀ z, edf z 0 (done ++ [(s, t, w)]) = edf z 0 done ++ ed1 done.length (s, t, w) z := fun z => by
    rw [edf_snoc]
    simp
  have same : (∀ z, ed1 done.length (s, t, w) z = []) → EOk (done ++ [(s, t, w)]) E Q := fun h => by
    refine ⟨fun z j hz => ?_, hE.nd, hE.ndj, fun z hz => ?_, ?_⟩
    · rw [hsn, h, List.append_nil]
      exact hE.get z j hz
    · rw [hsn, h, List.append_nil]
      exact hE.all z hz
    · have := hE.len
      simp
      omega
  cases s with
  | v z =>
    by_cases ht : isV t = true
    · refine ⟨E, Q, same fun y => by simp [ed1, ht], ?_⟩
      simp [enc, is_variable_int, is_variable_ok, ht]
    · have ht' : isV t = false := by simpa using ht
      have hz7 := size_7 (cx.dep t hU.2)
      have hv := fun h => variables_of_ok (m := m) (t := t) (ih := h) (by omega)
      have hvl := vrs_len (t := t)
      have he1 : ed1 done.length (.v z, t, w) z = (vrs t).map fun y => (done.length, y) := by simp [ed1, ht']
      have he2 : ∀ y, y ≠ z → ed1 done.length (.v z, t, w) y = [] := fun y hy => by
        simp [ed1]
        intro e
        exact absurd e.symm hy
      have hlen : ∀ T : List Stp, T <+: S → (edf z 0 T).length ≤ 255 * U.length := fun T hT => by
        have h1 := edf_len (z := z) (S := T) (i := 0) fun y hy => cx.dep _ (g.inU y (hT.subset hy)).2
        have h2 : (told T z).length ≤ (told S z).length := by
          obtain ⟨r, rfl⟩ := hT
          simp [told]
        have h3 := told_len g z
        exact Nat.le_trans h1 (Nat.mul_le_mul_left _ (Nat.le_trans h2 h3))
      have hUl : U.length < 1000 := by
        have := cx.sz
        rcases Nat.lt_or_ge U.length 1000 with h | h
        · exact h
        · have := Nat.mul_le_mul h h
          omega
      have hSl : S.length < 1000000 := Nat.lt_of_le_of_lt g.len cx.sz
      have hdl : done.length ≤ S.length := by
        have := hdone.length_le
        simp at this
        omega
      have hp := fun h ρ h2 h6 => pair_loop (h := h) (ρ := ρ) (i := done.length) h2 h6 (vrs t) [] (by simp; omega)
      have hi : ∀ l : List Nat, (List.map (fun x : Nat => D.int (x : Int)) l) = intL l := fun l => rfl
      cases ef : E.lookup z with
      | some j =>
        have hm := lookup_mem ef
        have hj := hE.get _ _ hm
        have hjl : j < Q.length := (List.getElem?_eq_some_iff.mp hj).1
        refine ⟨E, (Q ++ [IO.lst []]).set j (.lst (encE (edf z 0 done ++ (vrs t).map fun y => (done.length, y)))), ⟨fun y k hy => ?_, hE.nd, hE.ndj, fun y hy => ?_, ?_⟩, ?_⟩
        · rw [hsn]
          by_cases e : y = z
          · subst e
            have hk : E.lookup y = some k := by
              have h1 := (List.mem_iff_getElem?.mp hy)
              have h2 := (List.mem_iff_getElem?.mp hm)
              obtain ⟨p, hp⟩ := h1
              obtain ⟨q, hq⟩ := h2
              have hp1 : (E.map (·.1))[p]? = some y := by simp [hp]
              have hq1 : (E.map (·.1))[q]? = some y := by simp [hq]
              have hpq : p = q := (List.getElem?_inj (List.getElem?_eq_some_iff.mp hp1).1 hE.nd).mp (hp1.trans hq1.symm)
              subst hpq
              rw [hp] at hq
              rw [ef, (Prod.mk.inj (Option.some.inj hq)).2]
            rw [ef] at hk
            cases hk
            rw [he1]
            simp [hjl, Nat.lt_succ_of_lt hjl]
          · have hjj : j ≠ k := by
              intro e2
              subst e2
              obtain ⟨p, hp⟩ := List.mem_iff_getElem?.mp hy
              obtain ⟨q, hq⟩ := List.mem_iff_getElem?.mp hm
              have hp1 : (E.map (·.2))[p]? = some j := by simp [hp]
              have hq1 : (E.map (·.2))[q]? = some j := by simp [hq]
              have hpq : p = q := (List.getElem?_inj (List.getElem?_eq_some_iff.mp hp1).1 hE.ndj).mp (hp1.trans hq1.symm)
              subst hpq
              rw [hp] at hq
              exact e (Prod.mk.inj (Option.some.inj hq)).1
            have h2 := hE.get y k hy
            rw [get_set_ne hjj, List.getElem?_append_left (List.getElem?_eq_some_iff.mp h2).1, h2, he2 y e, List.append_nil]
        · rw [hsn, he2 y (fun e => hy (e ▸ List.mem_map.mpr ⟨_, hm, rfl⟩)), List.append_nil]
          exact hE.all y hy
        · have := hE.len
          simp
          omega
        · have hl1 := hlen (done ++ [(.v z, t, w)]) hdone
          rw [hsn, he1] at hl1
          have hl2 : (encE (edf z 0 done)).length + (vrs t).length ≤ 16777216 := by
            simp [encE] at hl1 ⊢
            omega
          simp [enc, is_variable_int, is_variable_ok, ht', kvE_look, ef, sz, hj, List.getElem?_append_left hjl, hv, hi, hp, hl2]
          have hl3 : (encE (edf z 0 done)).length + (encE ((vrs t).map fun y => (done.length, y))).length ≤ 16777216 := by
            simpa [encE] using hl2
          rw [if_pos hl3]
          simp [encE]
      | none =>
        have hnone := lookup_not ef
        have hempty := hE.all z hnone
        refine ⟨E ++ [(z, Q.length)], Q ++ [IO.lst (encE ((vrs t).map fun y => (done.length, y)))], ⟨fun y k hy => ?_, ?_, ?_, fun y hy => ?_, ?_⟩, ?_⟩
        · rw [hsn]
          rcases List.mem_append.mp hy with q | q
          · have e : y ≠ z := fun e => hnone (e ▸ List.mem_map.mpr ⟨_, q, rfl⟩)
            have h2 := hE.get y k q
            rw [List.getElem?_append_left (List.getElem?_eq_some_iff.mp h2).1, h2, he2 y e, List.append_nil]
          · simp at q
            obtain ⟨rfl, rfl⟩ := q
            rw [he1, hempty]
            simp
        · rw [List.map_append, List.nodup_append]
          refine ⟨hE.nd, by simp, fun a1 ha1 b1 hb1 e1 => ?_⟩
          simp at hb1
          rw [hb1] at e1
          exact hnone (e1 ▸ ha1)
        · rw [List.map_append, List.nodup_append]
          refine ⟨hE.ndj, by simp, fun a1 ha1 b1 hb1 e1 => ?_⟩
          simp at hb1
          rw [hb1] at e1
          obtain ⟨p, hp, e⟩ := List.mem_map.mp ha1
          have := hE.get p.1 p.2 hp
          have := (List.getElem?_eq_some_iff.mp this).1
          omega
        · simp at hy
          rw [hsn, he2 y hy.2, List.append_nil]
          exact hE.all y (by simpa using hy.1)
        · have := hE.len
          simp
          omega
        · have hel : (kvE ih.length R.length E).length < 16777216 := by
            rw [kvE, kvs_len]
            have := hE.len
            omega
          have ekl : dput (kvE ih.length R.length E) (.int z) (.num z) (.obj (ih.length + (4 + (R.length + (Q.length + 1))))) = kvE ih.length R.length (E ++ [(z, Q.length)]) := by
            rw [dput_new (by rw [kvE_look, ef]; rfl)]
            simp [kvE, kvs]
          have hl3 : (encE ((vrs t).map fun y => (done.length, y))).length ≤ 16777216 := by
            simp [encE]
            omega
          simp [enc, is_variable_int, is_variable_ok, ht', kvE_look, ef, sz, hv, hi, hp, hel, ekl, hl3]
  | _ =>
    refine ⟨E, Q, same fun y => by simp [ed1], ?_⟩
    simp [is_variable_ok, isV]

theorem edges_loop {m : Nat} {ih : IH} {U : List Tm} {S : List Stp} {b c : List (D × D)} {R : IH} (cx : Cx U) (g : Good U S) : ∀ (rest done : List Stp) (E : List (Nat × Nat)) (Q : IH) (x2 x3 x4 x5 : Option D), done ++ rest = S → EOk done E Q →
    ∃ E' Q' y2 y3 y4 y5, EOk S E' Q' ∧ forL (fun h => decide (h[ih.length + 1]? = some (.lst (S.map encS)))) (gTp 2 (gsCons (gNm 2) (gsCons (gTp 3 (gsCons (gNm 3) (gsCons (gNm 4) (gsCons (gNm 5) gsNil)))) gsNil))) (yIf (tAnd2 (tVal (xArgs ((progs (m + 2)).1 .is_variable) (xCons (xVar 3) xNil))) (tNot2 (tVal (xArgs ((progs (m + 2)).1 .is_variable) (xCons (xVar 4) xNil))))) (yExpr (xMethC isLstH fExtend (xMethC isDctA fSetd (xVar 1) (xCons (xVar 3) (xCons (xArgs fLstH xNil) xNil))) (xCons (xCompL (xSrc srcAny (xArgs ((progs (m + 2)).1 .variables_of) (xCons (xVar 4) xNil))) [6] (gNm 6) tTrue (emL (xArgs fTup (xCons (xVar 2) (xCons (xVar 6) xNil))))) xNil))) yNext)
      (enumL done.length (rest.map encS)) (eρ ih R x2 x3 x4 x5) (hq ih (S.map encS) b c (R ++ .dct (kvE ih.length R.length E) :: Q)) = some (.nx, eρ ih R y2 y3 y4 y5, hq ih (S.map encS) b c (R ++ .dct (kvE ih.length R.length E') :: Q'))
  | [], done, E, Q, x2, x3, x4, x5, h, hE => by
    simp at h
    subst h
    exact ⟨E, Q, x2, x3, x4, x5, hE, by simp [enumL]⟩
  | x :: rest, done, E, Q, x2, x3, x4, x5, h, hE => by
    have hx : S[done.length]? = some x := by
      rw [← h]
      simp
    obtain ⟨E1, Q1, hE1, e1⟩ := edges_body (m := m) (ih := ih) (a := S.map encS) (b := b) (c := c) (R := R) cx g hx hE ⟨rest, by simpa using h⟩
    obtain ⟨E2, Q2, y2, y3, y4, y5, hE2, e2⟩ := edges_loop (m := m) (ih := ih) (b := b) (c := c) (R := R) cx g rest (done ++ [x]) E1 Q1 (some (.int done.length)) (some (enc x.1)) (some (enc x.2.1)) (some (encW x.2.2)) (by simpa using h) hE1
    refine ⟨E2, Q2, y2, y3, y4, y5, hE2, ?_⟩
    have e4 : enumL done.length (List.map encS (x :: rest)) = .tup [.int done.length, .tup [enc x.1, enc x.2.1, encW x.2.2]] :: enumL (done ++ [x]).length (rest.map encS) := by
      simp [enumL, encS]
    rw [← e2, e4, forL_cons]
    simp [-yIf_ap, e1]
/-- the dict of edges, whole -/
def eD (S : List Stp) (zs : List Nat) : D := .dct (intL zs) (zs.map fun z => .lst (encE (edf z 0 S)))
theorem cleans_encE {n : Nat} {l : List (Nat × Nat)} : cleans n (encE l) = true := cleans_map fun p _ => by simp [clean, cleans]
theorem fzs_E {ih : IH} {n N : Nat} {S : List Stp} : ∀ {E : List (Nat × Nat)}, (∀ p ∈ E, n ≤ N + p.2 ∧ ih[N + p.2]? = some (.lst (encE (edf p.1 0 S)))) → fzs ih n 4 (E.map fun p => .obj (N + p.2)) = some (E.map fun p => .lst (encE (edf p.1 0 S)))
  | [], _ => by simp [fzs]
  | p :: E, h => by
    obtain ⟨h1, h2⟩ := h p (List.mem_cons_self ..)
    have h3 := fzs_E fun q hq => h q (List.mem_cons_of_mem _ hq)
    rw [List.map_cons, fzs, h3, fz, if_neg (by omega), h2]
    simp only
    rw [fzs_clean 3 _ cleans_encE]
    rfl
theorem edges_ok {m : Nat} {ih : IH} {U : List Tm} {S : List Stp} {L : List (Tm × Nat)} {R : IH} (cx : Cx U) (g : Good U S) : ∃ zs : List Nat, zs.Nodup ∧ zs.length ≤ S.length ∧ (∀ z, z ∉ zs → edf z 0 S = []) ∧ pureD ((progs (m + 3)).1 .Closure_edges) [.obj ih.length] (hc ih S L R) = some (eD S zs, hc ih S L R) := by
  obtain ⟨E, Q, y2, y3, y4, y5, hE, e1⟩ := edges_loop (m := m) (ih := ih) (b := kvP (prs S)) (c := kvL ih.length L) (R := R) cx g S [] [] [] none none none none rfl ⟨by simp, by simp, by simp, fun z _ => rfl, by simp⟩
  refine ⟨E.map (·.1), hE.nd, by simpa using hE.len, hE.all, ?_⟩
  have e2 : (progs (m + 3)).1 .Closure_edges [.obj ih.length] (hc ih S L R) = some (.obj (ih.length + (4 + R.length)), hq ih (S.map encS) (kvP (prs S)) (kvL ih.length L) (R ++ .dct (kvE ih.length R.length E) :: Q)) := by
    rw [pg, body, r_Closure_edges, bodyM_ap]
    simp only [hc]
    simp [-yIf_ap, -yFor_ap]
    rw [yFor_ap, xSrcN_run (l := [.obj (ih.length + 1)]) (by simp; rfl) seq_hq1]
    simp only [Option.bind_some]
    simp only [List.length_nil] at e1
    have e0 : kvE ih.length R.length [] = [] := rfl
    rw [e0] at e1
    rw [e1]
    simp
  have hl : (hc ih S L R).length = ih.length + (4 + R.length) := by simp [hc]
  unfold pureD
  rw [e2]
  simp only [Option.bind_some]
  have ht : (hq ih (S.map encS) (kvP (prs S)) (kvL ih.length L) (R ++ .dct (kvE ih.length R.length E) :: Q)).take (hc ih S L R).length = hc ih S L R := by
    rw [← hq_apps]
    exact List.take_left' rfl
  rw [if_pos ht]
  unfold fzD
  have e5 : (hq ih (S.map encS) (kvP (prs S)) (kvL ih.length L) (R ++ .dct (kvE ih.length R.length E) :: Q))[ih.length + (4 + R.length)]? = some (.dct (kvE ih.length R.length E)) := by simp
  simp only [e5, hl, Nat.lt_irrefl, if_false]
  have e6 : (kvE ih.length R.length E).map (·.1) = intL (E.map (·.1)) := by simp [kvE, kvs, intL, List.map_map, Function.comp_def]
  have e7 : cleans (ih.length + (4 + R.length)) (intL (E.map (·.1))) = true := cleans_map fun x _ => rfl
  have e8 : (kvE ih.length R.length E).map (·.2) = E.map fun p => .obj ((ih.length + (4 + (R.length + 1))) + p.2) := by
    simp only [kvE, kvs, List.map_map]
    refine List.map_congr_left fun p _ => ?_
    simp only [Function.comp]
    congr 1
    omega
  rw [e6, if_pos e7, e8, fzs_E (S := S)]
  · simp [eD, List.map_map, Function.comp_def]
  · intro p hp
    refine ⟨by omega, ?_⟩
    have h1 := hE.get p.1 p.2 hp
    have h2 : ih.length + (4 + (R.length + 1)) + p.2 = ih.length + (4 + (R.length + (p.2 + 1))) := by omega
    rw [h2]
    simpa using h1
end Gh.K67
end
section
set_option Elab.async false
set_option linter.all false
set_option maxRecDepth 100000
/-! k67: circles. -/
namespace Gh.K67
open PySem PySem.Spec PyProof.Rows L2 Tm
def encQ (l : List (Nat × List Nat)) : List D := l.map fun p => .tup [.int p.1, .tup (intL p.2)]
abbrev bρ (ih R : IH) (e : D) (start : Nat) (x5 x6 x7 x8 : Option D) : Env := [some (.obj ih.length), some e, some (.int start), some (.obj (ih.length + (4 + R.length))), some (.obj (ih.length + (4 + (R.length + 1)))), x5, x6, x7, x8]
theorem intL_one {l : List Nat} {a : Nat} : intL l ++ [.int a] = intL (l ++ [a]) := by simp [intL]
theorem intL_len {l : List Nat} : (intL l).length = l.length := by simp [intL]
theorem bfs_in {ih : IH} {a : List D} {b c : List (D × D)} {R : IH} {e : D} {start here : Nat} {way : List Nat} (hw : way.length < 1000) : ∀ (es : List (Nat × Nat)) (seen : List Nat) (wait : List (Nat × List Nat)) (x7 x8 : Option D), seen.length + es.length ≤ 1000000 → wait.length + es.length ≤ 1000000 →
    (∃ at_ y7 y8 R', (at_, start) ∈ es ∧ forL (fun _ => true) (gTp 2 (gsCons (gNm 7) (gsCons (gNm 8) gsNil))) (ySeq (yIf (tVal (xBin fEq (xVar 8) (xVar 2))) (yRet (xBin fAdd (xVar 6) (xArgs fTup (xCons (xVar 7) xNil)))) yNext) (yIf (tVal (xBin fNotInD (xVar 8) (xVar 3))) (ySeq (yAsg (xC (.bl true)) (gSb (xVar 3) (xVar 8) wSetD)) (yExpr (xMethC isLstH fAppend (xVar 4) (xCons (xArgs fTup (xCons (xVar 8) (xCons (xBin fAdd (xVar 6) (xArgs fTup (xCons (xVar 7) xNil))) xNil))) xNil)))) yNext)) (encE es)
        (bρ ih R e start (some (.int here)) (some (.tup (intL way))) x7 x8) (hq ih a b c (R ++ [.dct (kvV seen), .lst (encQ wait)])) = some (.rt (.tup (intL (way ++ [at_]))), bρ ih R e start (some (.int here)) (some (.tup (intL way))) y7 y8, hq ih a b c R')) ∨
    (∃ new y7 y8, (∀ p ∈ es, p.2 ≠ start) ∧ (∀ p ∈ new, ∃ i, (i, p.1) ∈ es ∧ p.2 = way ++ [i]) ∧ (∀ y, y ∈ dd seen (es.map (·.2)) → y ∈ seen ∨ y ∈ new.map (·.1)) ∧ (dd seen (es.map (·.2))).length = seen.length + new.length ∧ new.length ≤ es.length ∧
      forL (fun _ => true) (gTp 2 (gsCons (gNm 7) (gsCons (gNm 8) gsNil))) (ySeq (yIf (tVal (xBin fEq (xVar 8) (xVar 2))) (yRet (xBin fAdd (xVar 6) (xArgs fTup (xCons (xVar 7) xNil)))) yNext) (yIf (tVal (xBin fNotInD (xVar 8) (xVar 3))) (ySeq (yAsg (xC (.bl true)) (gSb (xVar 3) (xVar 8) wSetD)) (yExpr (xMethC isLstH fAppend (xVar 4) (xCons (xArgs fTup (xCons (xVar 8) (xCons (xBin fAdd (xVar 6) (xArgs fTup (xCons (xVar 7) xNil))) xNil))) xNil)))) yNext)) (encE es)
        (bρ ih R e start (some (.int here)) (some (.tup (intL way))) x7 x8) (hq ih a b c (R ++ [.dct (kvV seen), .lst (encQ wait)])) = some (.nx, bρ ih R e start (some (.int here)) (some (.tup (intL way))) y7 y8, hq ih a b c (R ++ [.dct (kvV (dd seen (es.map (·.2)))), .lst (encQ (wait ++ new))])))
  | [], seen, wait, x7, x8, h1, h2 => by
    right
    refine ⟨[], x7, x8, by simp, by simp, by simp [dd], by simp [dd], by simp, ?_⟩
    simp [encE, dd]
  | (i, y) :: es, seen, wait, x7, x8, h1, h2 => by
    simp only [List.length_cons] at h1 h2
    have e4 : encE ((i, y) :: es) = .tup [.int i, .int y] :: encE es := rfl
    have hwl : (intL way).length + 1 ≤ 16777216 := by
      rw [intL_len]
      omega
    rw [e4, forL_cons]
    by_cases q : y = start
    · subst q
      left
      refine ⟨i, some (.int i), some (.int y), R ++ [.dct (kvV seen), .lst (encQ wait)], List.mem_cons_self .., ?_⟩
      simp [sz, hwl, intL_one]
    · have q2 : ¬ (y : Int) = (start : Int) := by omega
      by_cases q3 : y ∈ seen
      · have hd : dd seen (List.map (·.2) ((i, y) :: es)) = dd seen (es.map (·.2)) := by simp [dd, q3]
        rcases bfs_in (ih := ih) (a := a) (b := b) (c := c) (R := R) (e := e) (start := start) (here := here) hw es seen wait (some (.int i)) (some (.int y)) (by omega) (by omega) with ⟨at_, y7, y8, R', g1, g2⟩ | ⟨new, y7, y8, g1, g2, g3, g4, g5, g6⟩
        · left
          refine ⟨at_, y7, y8, R', List.mem_cons_of_mem _ g1, ?_⟩
          rw [← g2]
          simp [q2, q3, kvV_lookO]
        · right
          rw [hd]
          refine ⟨new, y7, y8, fun p hp => ?_, fun p hp => ?_, g3, g4, by simp; omega, ?_⟩
          · rcases List.mem_cons.mp hp with rfl | hp
            · exact q
            · exact g1 p hp
          · obtain ⟨j, h3, h4⟩ := g2 p hp
            exact ⟨j, List.mem_cons_of_mem _ h3, h4⟩
          · rw [← g6]
            simp [q2, q3, kvV_lookO]
      · have hd1 : dd seen [y] = seen ++ [y] := by simp [dd, q3]
        have hd : dd seen (List.map (·.2) ((i, y) :: es)) = dd (seen ++ [y]) (es.map (·.2)) := by simp [dd, q3]
        have hsl : (kvV seen).length < 16777216 := by
          rw [kvV_len]
          omega
        have hql : (encQ wait).length < 16777216 := by
          simp [encQ]
          omega
        have heq : encQ wait ++ [.tup [.int y, .tup (intL (way ++ [i]))]] = encQ (wait ++ [(y, way ++ [i])]) := by simp [encQ]
        rcases bfs_in (ih := ih) (a := a) (b := b) (c := c) (R := R) (e := e) (start := start) (here := here) hw es (seen ++ [y]) (wait ++ [(y, way ++ [i])]) (some (.int i)) (some (.int y)) (by simp; omega) (by simp; omega) with ⟨at_, y7, y8, R', g1, g2⟩ | ⟨new, y7, y8, g1, g2, g3, g4, g5, g6⟩
        · left
          refine ⟨at_, y7, y8, R', List.mem_cons_of_mem _ g1, ?_⟩
          rw [← g2]
          simp [q2, q3, kvV_lookO, sz, hsl, kvV_put, hd1, hwl, intL_one, hql, heq]
        · right
          rw [hd]
          refine ⟨(y, way ++ [i]) :: new, y7, y8, fun p hp => ?_, fun p hp => ?_, fun z hz => ?_, by simp at g4 ⊢; omega, by simp; omega, ?_⟩
          · rcases List.mem_cons.mp hp with rfl | hp
            · exact q
            · exact g1 p hp
          · rcases List.mem_cons.mp hp with rfl | hp
            · exact ⟨i, List.mem_cons_self .., rfl⟩
            · obtain ⟨j, h3, h4⟩ := g2 p hp
              exact ⟨j, List.mem_cons_of_mem _ h3, h4⟩
          · rcases g3 z hz with h3 | h3
            · rcases List.mem_append.mp h3 with h3 | h3
              · exact .inl h3
              · simp at h3
                subst h3
                exact .inr (by simp)
            · exact .inr (by simp at h3 ⊢; exact .inr h3)
          · have hww : wait ++ (y, way ++ [i]) :: new = wait ++ [(y, way ++ [i])] ++ new := by simp
            rw [hww, ← g6]
            simp [q2, q3, kvV_lookO, sz, hsl, kvV_put, hd1, hwl, intL_one, hql, heq]
end Gh.K67
end
section
set_option Elab.async false
set_option linter.all false
set_option maxRecDepth 100000
/-! k67: circles: the search. -/
namespace Gh.K67
open PySem PySem.Spec PyProof.Rows L2 Tm
theorem occ_U {U : List Tm} (cl : ∀ t ∈ U, ∀ a ∈ args t, a ∈ U) : ∀ {t : Tm}, t ∈ U → ∀ y ∈ occ t, Tm.v y ∈ U
  | .v n, h, y, hy => by
    simp [occ] at hy
    subst hy
    exact h
  | .k _, h, y, hy => by simp [occ] at hy
  | .u c t, h, y, hy => occ_U cl (cl _ h t (by simp [args])) y hy
  | .b c s t, h, y, hy => by
    rcases List.mem_append.mp hy with q | q
    · exact occ_U cl (cl _ h s (by simp [args])) y q
    · exact occ_U cl (cl _ h t (by simp [args])) y q
theorem seen_len {U : List Tm} {seen : List Nat} (hn : seen.Nodup) (hU : ∀ y ∈ seen, Tm.v y ∈ U) : seen.length ≤ U.length := by
  have := nodup_len (l := seen.map Tm.v) (m := U) (List.pairwise_map.mpr (hn.imp fun h e => h (Tm.v.inj e))) fun x hx => by
    obtain ⟨y, hy, rfl⟩ := List.mem_map.mp hx
    exact hU y hy
  simpa using this
theorem edf_U {U : List Tm} {S : List Stp} (cx : Cx U) (g : Good U S) {z : Nat} {p : Nat × Nat} (h : p ∈ edf z 0 S) : Tm.v p.2 ∈ U ∧ p.1 < S.length := by
  obtain ⟨j, x, h1, h2, h3, h4, h5⟩ := edf_mem.mp h
  refine ⟨occ_U cx.cl (g.inU x (List.mem_of_getElem? h1)).2 _ h5, ?_⟩
  have := (List.getElem?_eq_some_iff.mp h1).1
  omega
theorem eD_get {S : List Stp} {zs : List Nat} (hz : ∀ z, z ∉ zs → edf z 0 S = []) (z : Nat) : (dlook ((intL zs).zip (zs.map fun z => D.lst (encE (edf z 0 S)))) (.num z)).getD (.lst []) = .lst (encE (edf z 0 S)) := by
  have h1 : (intL zs).zip (zs.map fun z => D.lst (encE (edf z 0 S))) = kvs (fun z : Nat => .int z) (fun z => .lst (encE (edf z 0 S))) zs := by
    rw [intL]
    exact List.zip_map' ..
  rw [h1, dlook_kvs (kk := fun z : Nat => .num z) fun x _ => hkeyI]
  by_cases q : z ∈ zs
  · have : zs.find? (fun x : Nat => decide (NestedKey.num (x : Int) = .num (z : Int))) = some z := by
      clear h1 hz
      induction zs with
      | nil => simp at q
      | cons y zs ih =>
        rw [List.find?_cons]
        by_cases e : y = z
        · subst e
          simp
        · have e2 : decide (NestedKey.num (y : Int) = .num (z : Int)) = false := by
            simp
            omega
          rw [e2]
          exact ih ((List.mem_cons.mp q).resolve_left fun h => e h.symm)
    rw [this]
    rfl
  · have : zs.find? (fun x : Nat => decide (NestedKey.num (x : Int) = .num (z : Int))) = none := by
      rw [List.find?_eq_none]
      intro x hx e
      simp at e
      have : x = z := by omega
      exact q (this ▸ hx)
    rw [this, hz z q]
    rfl
theorem encE_len {l : List (Nat × Nat)} : (encE l).length = l.length := by simp [encE]
theorem fPop0 {n : Nat} {ih : IH} {x : D} {xs : List D} (h : ih[n]? = some (.lst (x :: xs))) : fPop (.obj n) [.int 0] ih = some (x, ih.set n (.lst xs)) := by
  have h1 : (-(2 ^ 63) : Int) ≤ 0 := by decide
  have h2 : (0 : Int) < 2 ^ 63 := by decide
  have h3 : seqIndex? 0 (x :: xs).length = some 0 := by
    simp [seqIndex?]
  simp only [fPop, h]
  rw [if_pos ⟨h1, h2⟩, h3]
  simp
/-- what a search from a start ends in -/
def Found (S : List Stp) (start : Nat) (f : Fl) : Prop := (∃ way : List Nat, f = .rt (.tup (intL way)) ∧ Pth S start start ∧ (∀ i ∈ way, i < S.length) ∧ way.length ≤ 1000000) ∨ (f = .nx ∧ ¬ Pth S start start)
theorem bfs_loop {ih : IH} {U : List Tm} {S : List Stp} {a : List D} {b c : List (D × D)} {R : IH} {zs : List Nat} {start : Nat} (cx : Cx U) (g : Good U S) (hz : ∀ z, z ∉ zs → edf z 0 S = []) :
    ∀ (N : Nat) (seen : List Nat) (wait : List (Nat × List Nat)) (x5 x6 x7 x8 : Option D), (U.length - seen.length) + wait.length < N → seen.Nodup → (∀ y ∈ seen, Tm.v y ∈ U) → wait.length ≤ seen.length + 1 →
      (∀ e ∈ wait, (e.1 = start ∨ Pth S start e.1) ∧ (∀ i ∈ e.2, i < S.length) ∧ e.2.length ≤ seen.length) →
      (∀ z, z = start ∨ z ∈ seen → z ∈ wait.map (·.1) ∨ ∀ p ∈ edf z 0 S, p.2 ∈ seen ∧ p.2 ≠ start) →
    ∃ f y5 y6 y7 y8 R', Found S start f ∧ whileN (tTru (xVar 4)) (ySeq (yAsg (xMethC isLstH fPop (xVar 4) (xCons (xC (.int 0)) xNil)) (gTp 2 (gsCons (gNm 5) (gsCons (gNm 6) gsNil)))) (yFor (xSrc srcAny (xMethC isDctA fGet (xVar 1) (xCons (xVar 5) (xCons (xArgs fLst xNil) xNil)))) (gTp 2 (gsCons (gNm 7) (gsCons (gNm 8) gsNil))) (ySeq (yIf (tVal (xBin fEq (xVar 8) (xVar 2))) (yRet (xBin fAdd (xVar 6) (xArgs fTup (xCons (xVar 7) xNil)))) yNext) (yIf (tVal (xBin fNotInD (xVar 8) (xVar 3))) (ySeq (yAsg (xC (.bl true)) (gSb (xVar 3) (xVar 8) wSetD)) (yExpr (xMethC isLstH fAppend (xVar 4) (xCons (xArgs fTup (xCons (xVar 8) (xCons (xBin fAdd (xVar 6) (xArgs fTup (xCons (xVar 7) xNil))) xNil))) xNil)))) yNext)))) N
      (bρ ih R (eD S zs) start x5 x6 x7 x8) (hq ih a b c (R ++ [.dct (kvV seen), .lst (encQ wait)])) = some (f, bρ ih R (eD S zs) start y5 y6 y7 y8, hq ih a b c R')
  | 0, _, _, _, _, _, _, h, _, _, _, _, _ => by omega
  | N + 1, seen, [], x5, x6, x7, x8, h, hn, hU, hwl, hw, hI => by
    have hno : ¬ Pth S start start := by
      have : ∀ y, Pth S start y → y ∈ seen ∧ y ≠ start := by
        intro y hy
        induction hy with
        | one e =>
          obtain ⟨i, hi⟩ := ed_iff.mp e
          exact (hI _ (.inl rfl)).resolve_left (by simp) _ hi
        | cons _ e ih =>
          obtain ⟨i, hi⟩ := ed_iff.mp e
          exact (hI _ (.inr ih.1)).resolve_left (by simp) _ hi
      exact fun h => (this start h).2 rfl
    refine ⟨.nx, x5, x6, x7, x8, R ++ [.dct (kvV seen), .lst []], .inr ⟨rfl, hno⟩, ?_⟩
    rw [whileN]
    simp [encQ]
  | N + 1, seen, (z, way) :: wait, x5, x6, x7, x8, h, hn, hU, hwl, hw, hI => by
    have hsl := seen_len hn hU
    obtain ⟨hz1, hz2, hz3⟩ := hw (z, way) (List.mem_cons_self ..)
    simp only at hz1 hz2 hz3
    have hUl : U.length < 1000 := by
      have := cx.sz
      rcases Nat.lt_or_ge U.length 1000 with h | h
      · exact h
      · have := Nat.mul_le_mul h h
        omega
    have hel : (edf z 0 S).length ≤ 255 * U.length := Nat.le_trans (edf_len fun y hy => cx.dep _ (g.inU y hy).2) (Nat.mul_le_mul_left _ (told_len g z))
    simp only [List.length_cons] at h hwl
    have hgo := eD_get hz z
    have epop : (encQ ((z, way) :: wait)) = .tup [.int z, .tup (intL way)] :: encQ wait := rfl
    have edge : ∀ p ∈ edf z 0 S, Pth S start p.2 := fun p hp => by
      have e : Ed S z p.2 := ed_iff.mpr ⟨p.1, hp⟩
      rcases hz1 with rfl | hz1
      · exact .one e
      · exact hz1.cons e
    rw [whileN]
    rcases bfs_in (ih := ih) (a := a) (b := b) (c := c) (R := R) (e := eD S zs) (start := start) (here := z) (way := way) (by omega) (edf z 0 S) seen wait x7 x8 (by omega) (by omega) with ⟨at_, y7, y8, R', g1, g2⟩ | ⟨new, y7, y8, g1, g2, g3, g4, g5, g6⟩
    · refine ⟨.rt (.tup (intL (way ++ [at_]))), some (.int z), some (.tup (intL way)), y7, y8, R', .inl ⟨way ++ [at_], rfl, edge _ g1, fun i hi => ?_, by simp; omega⟩, ?_⟩
      · rcases List.mem_append.mp hi with q | q
        · exact hz2 i q
        · simp at q
          subst q
          exact (edf_U cx g g1).2
      · rw [epop]
        have hp : (hq ih a b c (R ++ [.dct (kvV seen), .lst (.tup [.int z, .tup (intL way)] :: encQ wait)]))[ih.length + (4 + (R.length + 1))]? = some (.lst (.tup [.int z, .tup (intL way)] :: encQ wait)) := by simp
        simp only [eD] at g2 ⊢
        simp [-yIf_ap, fPop0 hp, hgo]
        rw [g2]
        simp
    · have hd := dd_nodup (xs := (edf z 0 S).map (·.2)) hn
      have hU' : ∀ y ∈ dd seen ((edf z 0 S).map (·.2)), Tm.v y ∈ U := fun y hy => by
        rcases dd_mem.mp hy with q | q
        · exact hU y q
        · obtain ⟨p, hp, rfl⟩ := List.mem_map.mp q
          exact (edf_U cx g hp).1
      have hsl2 := seen_len hd hU'
      obtain ⟨f, u5, u6, u7, u8, R', hf, e2⟩ := bfs_loop (ih := ih) (a := a) (b := b) (c := c) (R := R) cx g hz N (dd seen ((edf z 0 S).map (·.2))) (wait ++ new) (some (.int z)) (some (.tup (intL way))) y7 y8 (by simp; omega) hd hU' (by simp; omega) (fun e he => by
        rcases List.mem_append.mp he with q | q
        · obtain ⟨h1, h2, h3⟩ := hw e (List.mem_cons_of_mem _ q)
          exact ⟨h1, h2, by omega⟩
        · obtain ⟨i, h1, h2⟩ := g2 e q
          have hnl : 0 < new.length := List.length_pos_of_mem q
          refine ⟨.inr (edge _ h1), fun j hj => ?_, ?_⟩
          · rw [h2] at hj
            rcases List.mem_append.mp hj with q2 | q2
            · exact hz2 j q2
            · simp at q2
              subst q2
              exact (edf_U cx g h1).2
          · rw [h2]
            simp
            omega) (fun x hx => by
        by_cases q : x = z
        · subst q
          right
          intro p hp
          exact ⟨dd_mem.mpr (.inr (List.mem_map.mpr ⟨p, hp, rfl⟩)), g1 p hp⟩
        · have hx' : x = start ∨ x ∈ seen ∨ x ∈ new.map (·.1) := by
            rcases hx with h | h
            · exact .inl h
            · exact .inr (g3 x h)
          rcases hx' with h1 | h1 | h1
          · rcases hI x (.inl h1) with h2 | h2
            · simp [q] at h2
              left
              simp
              exact .inl h2
            · exact .inr fun p hp => ⟨dd_mem.mpr (.inl (h2 p hp).1), (h2 p hp).2⟩
          · rcases hI x (.inr h1) with h2 | h2
            · simp [q] at h2
              left
              simp
              exact .inl h2
            · exact .inr fun p hp => ⟨dd_mem.mpr (.inl (h2 p hp).1), (h2 p hp).2⟩
          · left
            rw [List.map_append]
            exact List.mem_append_right _ h1)
      refine ⟨f, u5, u6, u7, u8, R', hf, ?_⟩
      rw [← e2, epop]
      have hp : (hq ih a b c (R ++ [.dct (kvV seen), .lst (.tup [.int z, .tup (intL way)] :: encQ wait)]))[ih.length + (4 + (R.length + 1))]? = some (.lst (.tup [.int z, .tup (intL way)] :: encQ wait)) := by simp
      simp only [eD] at g6 ⊢
      simp [-yIf_ap, fPop0 hp, hgo]
      rw [g6]
      simp
abbrev aρ (ih : IH) (e : D) (x2 x3 x4 x5 x6 x7 x8 : Option D) : Env := [some (.obj ih.length), some e, x2, x3, x4, x5, x6, x7, x8]
theorem starts_loop {ih : IH} {U : List Tm} {S : List Stp} {a : List D} {b c : List (D × D)} {zs : List Nat} (cx : Cx U) (g : Good U S) (hz : ∀ z, z ∉ zs → edf z 0 S = []) :
    ∀ (ss : List Nat) (R : IH) (x2 x3 x4 x5 x6 x7 x8 : Option D),
    ∃ f y2 y3 y4 y5 y6 y7 y8 R', ((∃ way : List Nat, f = .rt (.tup (intL way)) ∧ (∃ s, Pth S s s) ∧ (∀ i ∈ way, i < S.length) ∧ way.length ≤ 1000000) ∨ (f = .nx ∧ ∀ s ∈ ss, ¬ Pth S s s)) ∧
      forL (fun _ => true) (gNm 2) (ySeq (ySet 3 xDnewH) (ySeq (ySet 4 (xArgs fLstH (xCons (xArgs fTup (xCons (xVar 2) (xCons (xArgs fTup xNil) xNil))) xNil))) (yWhile (tTru (xVar 4)) (ySeq (yAsg (xMethC isLstH fPop (xVar 4) (xCons (xC (.int 0)) xNil)) (gTp 2 (gsCons (gNm 5) (gsCons (gNm 6) gsNil)))) (yFor (xSrc srcAny (xMethC isDctA fGet (xVar 1) (xCons (xVar 5) (xCons (xArgs fLst xNil) xNil)))) (gTp 2 (gsCons (gNm 7) (gsCons (gNm 8) gsNil))) (ySeq (yIf (tVal (xBin fEq (xVar 8) (xVar 2))) (yRet (xBin fAdd (xVar 6) (xArgs fTup (xCons (xVar 7) xNil)))) yNext) (yIf (tVal (xBin fNotInD (xVar 8) (xVar 3))) (ySeq (yAsg (xC (.bl true)) (gSb (xVar 3) (xVar 8) wSetD)) (yExpr (xMethC isLstH fAppend (xVar 4) (xCons (xArgs fTup (xCons (xVar 8) (xCons (xBin fAdd (xVar 6) (xArgs fTup (xCons (xVar 7) xNil))) xNil))) xNil)))) yNext)))))))
        (intL ss) (aρ ih (eD S zs) x2 x3 x4 x5 x6 x7 x8) (hq ih a b c R) = some (f, aρ ih (eD S zs) y2 y3 y4 y5 y6 y7 y8, hq ih a b c R')
  | [], R, x2, x3, x4, x5, x6, x7, x8 => ⟨.nx, x2, x3, x4, x5, x6, x7, x8, R, .inr ⟨rfl, by simp⟩, by simp [intL]⟩
  | s :: ss, R, x2, x3, x4, x5, x6, x7, x8 => by
    have e4 : intL (s :: ss) = .int s :: intL ss := rfl
    obtain ⟨f, y5, y6, y7, y8, R', hf, e1⟩ := bfs_loop (ih := ih) (a := a) (b := b) (c := c) (R := R) (start := s) cx g hz (U.length + 2) [] [(s, [])] x5 x6 x7 x8 (by simp) List.nodup_nil (by simp) (by simp) (fun e he => by
      simp at he
      subst he
      simp) (fun z hz => by
      simp at hz
      subst hz
      simp)
    have e2 := yWhile_of e1
    have ek : kvV [] = [] := rfl
    have eq : encQ [(s, [])] = [.tup [.int s, .tup []]] := rfl
    rw [ek, eq] at e2
    rw [e4, forL_cons]
    rcases hf with ⟨way, rfl, h1, h2, h3⟩ | ⟨rfl, h1⟩
    · refine ⟨.rt (.tup (intL way)), some (.int s), some (.obj (ih.length + (4 + R.length))), some (.obj (ih.length + (4 + (R.length + 1)))), y5, y6, y7, y8, R', .inl ⟨way, rfl, ⟨s, h1⟩, h2, h3⟩, ?_⟩
      simp [sz]
      rw [e2]
      simp
    · obtain ⟨f, u2, u3, u4, u5, u6, u7, u8, R2, hf, e3⟩ := starts_loop (ih := ih) (a := a) (b := b) (c := c) cx g hz ss R' (some (.int s)) (some (.obj (ih.length + (4 + R.length)))) (some (.obj (ih.length + (4 + (R.length + 1))))) y5 y6 y7 y8
      refine ⟨f, u2, u3, u4, u5, u6, u7, u8, R2, ?_, ?_⟩
      · rcases hf with h | ⟨h2, h3⟩
        · exact .inl h
        · right
          refine ⟨h2, fun x hx => ?_⟩
          rcases List.mem_cons.mp hx with rfl | hx
          · exact h1
          · exact h3 x hx
      · rw [← e3]
        simp [sz]
        rw [e2]
        simp
theorem circle_ok {m : Nat} {ih : IH} {U : List Tm} {S : List Stp} {L : List (Tm × Nat)} {R : IH} (cx : Cx U) (g : Good U S) : ∃ d R', (progs (m + 4)).1 .Closure_circle [.obj ih.length] (hc ih S L R) = some (d, hc ih S L R') ∧
    ((∃ way : List Nat, d = .tup (intL way) ∧ (∃ s, Pth S s s) ∧ (∀ i ∈ way, i < S.length) ∧ way.length ≤ 1000000) ∨ (d = .non ∧ Acy S)) := by
  obtain ⟨zs, h1, h2, h3, h4⟩ := edges_ok (m := m) (ih := ih) (L := L) (R := R) cx g
  obtain ⟨f, y2, y3, y4, y5, y6, y7, y8, R', hf, e1⟩ := starts_loop (ih := ih) (a := S.map encS) (b := kvP (prs S)) (c := kvL ih.length L) cx g h3 (zs.mergeSort fun a b => decide (a ≤ b)) R none none none none none none none
  have hs : fSortD [eD S zs] (hc ih S L R) = some (.lst (intL (zs.mergeSort fun a b => decide (a ≤ b))), hc ih S L R) := by
    have e : List.map (·.1) ((intL zs).zip (zs.map fun z => D.lst (encE (edf z 0 S)))) = zs.map fun z : Nat => D.int (z : Int) := by
      rw [intL, List.zip_map', List.map_map]
      rfl
    simp only [eD, fSortD_ap, getKvs_dct, Option.bind_some, e, asInts_map, Option.map_some, sortI_cast]
    simp [intL, List.map_map, Function.comp_def]
  have e3 : ∀ d, (match f with
    | .rt d => some d
    | .nx => some .non
    | _ => none) = some d → (progs (m + 4)).1 .Closure_circle [.obj ih.length] (hc ih S L R) = some (d, hc ih S L R') := fun d hd => by
    rw [pg, body, r_Closure_circle, bodyM_ap]
    have h5 : pureD ((progs (m + 3)).1 .Closure_edges) [.obj ih.length] (hc ih S L R) = some (eD S zs, hc ih S L R) := h4
    simp only [hc] at h5 hs ⊢
    simp [-yIf_ap, -yFor_ap, h5]
    rw [yFor_ap, xSrc_ap]
    simp [-yIf_ap, hs, e1]
    cases f <;> simp at hd <;> subst hd <;> simp
  rcases hf with ⟨way, rfl, q1, q2, q3⟩ | ⟨rfl, q1⟩
  · exact ⟨_, R', e3 _ rfl, .inl ⟨way, rfl, q1, q2, q3⟩⟩
  · refine ⟨_, R', e3 _ rfl, .inr ⟨rfl, fun x hx => ?_⟩⟩
    by_cases q : x ∈ zs
    · exact q1 x (List.mem_mergeSort.mpr q) hx
    · have : ∀ y, Pth S x y → False := by
        intro y hy
        induction hy with
        | one e =>
          obtain ⟨i, hi⟩ := ed_iff.mp e
          rw [h3 _ q] at hi
          cases hi
        | cons _ _ ih => exact ih
      exact this x hx
end Gh.K67
end
section
set_option Elab.async false
set_option linter.all false
set_option maxRecDepth 100000
/-! k67: what the variables become. -/
namespace Gh.K67
open PySem PySem.Spec PyProof.Rows L2 Tm
theorem dep_occ {σ : Nat → Tm} : ∀ {t : Tm} {y : Nat}, y ∈ occ t → (σ y).dep ≤ (sb σ t).dep
  | .v n, y, h => by
    simp [occ] at h
    subst h
    exact Nat.le_refl _
  | .k _, y, h => by simp [occ] at h
  | .u _ t, y, h => by
    have := dep_occ (σ := σ) (t := t) h
    simp only [sb, dep]
    omega
  | .b _ s t, y, h => by
    simp only [sb, dep]
    rcases List.mem_append.mp h with q | q
    · have := dep_occ (σ := σ) (t := s) q
      omega
    · have := dep_occ (σ := σ) (t := t) q
      omega
theorem dep_occ_lt {σ : Nat → Tm} {t : Tm} {y : Nat} (ht : isV t = false) (h : y ∈ occ t) : (σ y).dep < (sb σ t).dep := by
  cases t with
  | v _ => simp [isV] at ht
  | k _ => simp [occ] at h
  | u _ t =>
    have := dep_occ (σ := σ) (t := t) h
    simp only [sb, dep]
    omega
  | b _ s t =>
    simp only [sb, dep]
    rcases List.mem_append.mp h with q | q
    · have := dep_occ (σ := σ) (t := s) q
      omega
    · have := dep_occ (σ := σ) (t := t) q
      omega
structure Kn (U : List Tm) (S : List Stp) (l : AL) : Prop where
  key : Tm.Keyed l
  val : ∀ x t, (x, t) ∈ l → t = va S x ∧ Tm.v x ∈ U
theorem Kn.len {U : List Tm} {S : List Stp} {l : AL} (h : Kn U S l) : l.length ≤ U.length := by
  have hk : (l.map (·.1)).Nodup := h.key
  have := seen_len (U := U) (seen := l.map (·.1)) hk fun y hy => by
    obtain ⟨p, hp, rfl⟩ := List.mem_map.mp hy
    exact (h.val p.1 p.2 hp).2
  simpa using this
theorem Kn.look {U : List Tm} {S : List Stp} {l : AL} (h : Kn U S l) {x : Nat} {t : Tm} (e : l.lookup x = some t) : t = va S x := (h.val x t ((lookup_iff h.key).mp e)).1
theorem Kn.put {U : List Tm} {S : List Stp} {l : AL} (h : Kn U S l) {x : Nat} (hx : Tm.v x ∈ U) : ∃ l', Kn U S l' ∧ dput (encA l) (.int x) (.num x) (enc (va S x)) = encA l' ∧ l'.lookup x = some (va S x) := by
  cases e : l.lookup x with
  | some t =>
    have := h.look e
    subst this
    refine ⟨l, h, dput_same (fun p hp hk => ?_) (by rw [encA_look, e]; rfl), e⟩
    obtain ⟨q, hq, rfl⟩ := List.mem_map.mp hp
    simp at hk
    have hqx : q.1 = x := by omega
    have := (h.val q.1 q.2 hq).1
    show enc q.2 = _
    rw [this, hqx]
  | none =>
    refine ⟨l ++ [(x, va S x)], ⟨?_, fun y t hy => ?_⟩, encA_new e, ?_⟩
    · unfold Tm.Keyed
      rw [List.map_append, List.nodup_append]
      refine ⟨h.key, by simp, fun a ha b hb q => ?_⟩
      simp at hb
      rw [hb] at q
      exact lookup_not e (q ▸ ha)
    · rcases List.mem_append.mp hy with q | q
      · exact h.val y t q
      · simp at q
        rw [q.1, q.2]
        exact ⟨rfl, hx⟩
    · rw [lookup_snoc, e]
      simp
/-- the heap with what is known -/
abbrev hk (ih : IH) (S : List Stp) (b c : List (D × D)) (R : IH) (l : AL) : IH := hq ih (S.map encS) b c (R ++ [.dct (encA l)])
theorem told_loop {h ih : IH} {ρ : Env} {S : List Stp} {x : Nat} (hU : ∀ y ∈ S, y.1.dep ≤ 7) (hg : h[ih.length + 1]? = some (.lst (S.map encS))) (h1 : ρ[1]? = some (some (.int x))) (h7 : 7 < ρ.length) : ∀ (rest : List Stp) (acc : List D), (∀ y ∈ rest, y ∈ S) → acc.length + rest.length ≤ 1000000 →
    loopC (fun k => decide (k[ih.length + 1]? = some (.lst (S.map encS)))) (gTp 3 (gsCons (gNm 5) (gsCons (gNm 6) (gsCons (gNm 7) gsNil)))) (tVal (xBin fEq (xVar 5) (xVar 1))) (emL (xVar 6)) ρ (rest.map encS) h acc = some (acc ++ (told rest x).map enc, h)
  | [], acc, _, _ => by simp [told, hg]
  | y :: rest, acc, hs, hz => by
    obtain ⟨s, t, w⟩ := y
    simp only [List.length_cons] at hz
    have hsd : s.dep ≤ 64 := Nat.le_trans (hU _ (hs _ (List.mem_cons_self ..))) (by omega)
    have hlt : acc.length < 16777216 := by omega
    have he := fEq_enc (s := s) (t := .v x) hsd (by simp [dep]) h
    simp only [enc] at he
    have s1 : ∀ d5 d6 d7 : D, (((ρ.set 5 (some d5)).set 6 (some d6)).set 7 (some d7))[1]? = some (some (.int x)) := fun d5 d6 d7 => by
      rw [get_set_ne (by omega), get_set_ne (by omega), get_set_ne (by omega), h1]
    have s5 : ∀ d5 d6 d7 : D, (((ρ.set 5 (some d5)).set 6 (some d6)).set 7 (some d7))[5]? = some (some d5) := fun d5 d6 d7 => by
      rw [get_set_ne (by omega), get_set_ne (by omega)]
      have : 5 < ρ.length := by omega
      simp [this]
    have s6 : ∀ d5 d6 d7 : D, (((ρ.set 5 (some d5)).set 6 (some d6)).set 7 (some d7))[6]? = some (some d6) := fun d5 d6 d7 => by
      rw [get_set_ne (by omega)]
      have : 6 < ρ.length := by omega
      simp [this]
    have e4 : List.map encS ((s, t, w) :: rest) = .tup [enc s, enc t, encW w] :: rest.map encS := rfl
    rw [e4, loopC_cons]
    by_cases q : s = .v x
    · subst q
      have g := told_loop (h := h) hU hg h1 h7 rest (acc ++ [enc t]) (fun y hy => hs y (List.mem_cons_of_mem _ hy)) (by simp; omega)
      have hq : told ((.v x, t, w) :: rest) x = t :: told rest x := by simp [told]
      simp only [hg, decide_true, if_true, gTp_ap, List.length_cons, List.length_nil, gsCons_ap, gNm_ap, Option.bind_some, gsNil_ap, tVal_ap, xBin_ap, xVar_ap, s1, s5, s6, he, asB_bl, Option.map_some, emL_ap, sz, hlt, g, hq]
      simp
    · have g := told_loop (h := h) hU hg h1 h7 rest acc (fun y hy => hs y (List.mem_cons_of_mem _ hy)) (by omega)
      have hq : told ((s, t, w) :: rest) x = told rest x := by simp [told, q]
      simp only [hg, decide_true, if_true, gTp_ap, List.length_cons, List.length_nil, gsCons_ap, gNm_ap, Option.bind_some, gsNil_ap, tVal_ap, xBin_ap, xVar_ap, s1, s5, s6, he, asB_bl, Option.map_some, q, decide_false, Bool.false_eq_true, if_false, g, hq]
theorem whole_loop {m : Nat} {h : IH} {ρ : Env} (h8 : 8 < ρ.length) : ∀ (ts : List Tm) (acc : List D), acc.length + ts.length ≤ 1000000 →
    loopC (fun _ => true) (gNm 8) (tNot2 (tVal (xArgs ((progs (m + 1)).1 .is_variable) (xCons (xVar 8) xNil)))) (emL (xVar 8)) ρ (ts.map enc) h acc = some (acc ++ (ts.filter fun t => !isV t).map enc, h)
  | [], acc, _ => by simp
  | t :: ts, acc, hz => by
    simp only [List.length_cons] at hz
    have hlt : acc.length < 16777216 := by omega
    rw [List.map_cons, loopC_cons]
    by_cases q : isV t = true
    · have g := whole_loop (m := m) (h := h) h8 ts acc (by omega)
      simp [h8, is_variable_ok, q, g]
    · have g := whole_loop (m := m) (h := h) h8 ts (acc ++ [enc t]) (by simp; omega)
      simp [h8, is_variable_ok, q, sz, hlt, g]
theorem told_prs_len {S : List Stp} {x : Nat} : (told S x).length ≤ S.length := by
  unfold told
  rw [List.length_map]
  exact List.length_filter_le ..
theorem foldmin_cast : ∀ (l : List Nat) (a : Nat), ((l.map fun x : Nat => (x : Int)).foldl (fun a b => if b < a then b else a) (a : Int)) = ((l.foldl (fun a b => if b < a then b else a) a : Nat) : Int)
  | [], a => rfl
  | y :: l, a => by
    rw [List.map_cons, List.foldl_cons, List.foldl_cons, ← foldmin_cast l]
    congr 1
    by_cases h : y < a
    · rw [if_pos h, if_pos (by omega)]
    · rw [if_neg h, if_neg (by omega)]
theorem vars_only {ts : List Tm} (h : ts.filter (fun t => !isV t) = []) : ts.map enc = (ts.map vnum).map fun x : Nat => D.int (x : Int) := by
  rw [List.map_map]
  refine List.map_congr_left fun t ht => ?_
  rw [List.filter_eq_nil_iff] at h
  have := h t ht
  cases t <;> simp [isV] at this
  rfl
end Gh.K67
end
section
set_option Elab.async false
set_option linter.all false
set_option maxRecDepth 100000
/-! k67: value and filled. -/
namespace Gh.K67
open PySem PySem.Spec PyProof.Rows L2 Tm
section
variable {ih : IH} {U : List Tm} {S : List Stp} {b c : List (D × D)} {R : IH}
def ValOk (ih : IH) (U : List Tm) (S : List Stp) (b c : List (D × D)) (R : IH) (d : Nat) : Prop := ∀ (m x : Nat) (kn : AL), Kn U S kn → Tm.v x ∈ U → (va S x).dep ≤ d → 12 * d + 12 ≤ m →
  ∃ kn', Kn U S kn' ∧ (progs m).1 .Closure_value [.obj ih.length, .int x, .obj (ih.length + (4 + R.length))] (hk ih S b c R kn) = some (enc (va S x), hk ih S b c R kn')
theorem filled_ok {d : Nat} (hV : ValOk ih U S b c R d) : ∀ (t : Tm) (m : Nat) (kn : AL), Kn U S kn → (∀ y ∈ occ t, Tm.v y ∈ U ∧ (va S y).dep ≤ d) → 12 * d + 13 + t.dep ≤ m →
    ∃ kn', Kn U S kn' ∧ (progs m).1 .Closure_filled [.obj ih.length, enc t, .obj (ih.length + (4 + R.length))] (hk ih S b c R kn) = some (enc (sb (va S) t), hk ih S b c R kn')
  | .v x, m, kn, hK, hy, hm => by
    obtain ⟨m, rfl⟩ : ∃ j, m = j + 2 := ⟨m - 2, by omega⟩
    simp only [dep] at hm
    obtain ⟨h1, h2⟩ := hy x (by simp [occ])
    obtain ⟨kn', hK', e⟩ := hV (m + 1) x kn hK h1 h2 (by omega)
    refine ⟨kn', hK', ?_⟩
    rw [pg, body, r_Closure_filled, bodyM_ap]
    simp [enc, is_variable_int, e, sb]
  | .k h, m, kn, hK, hy, hm => by
    obtain ⟨m, rfl⟩ : ∃ j, m = j + 2 := ⟨m - 2, by omega⟩
    refine ⟨kn, hK, ?_⟩
    rw [pg, body, r_Closure_filled, bodyM_ap]
    simp [enc, is_variable_tup, sb, sz]
  | .u h t, m, kn, hK, hy, hm => by
    obtain ⟨m, rfl⟩ : ∃ j, m = j + 2 := ⟨m - 2, by omega⟩
    simp only [dep] at hm
    obtain ⟨kn', hK', e⟩ := filled_ok hV t (m + 1) kn hK hy (by omega)
    refine ⟨kn', hK', ?_⟩
    rw [pg, body, r_Closure_filled, bodyM_ap]
    simp [enc, is_variable_tup, sb, sz, e]
  | .b h s t, m, kn, hK, hy, hm => by
    obtain ⟨m, rfl⟩ : ∃ j, m = j + 2 := ⟨m - 2, by omega⟩
    simp only [dep] at hm
    obtain ⟨k1, hK1, e1⟩ := filled_ok hV s (m + 1) kn hK (fun y q => hy y (by simp [occ, q])) (by omega)
    obtain ⟨k2, hK2, e2⟩ := filled_ok hV t (m + 1) k1 hK1 (fun y q => hy y (by simp [occ, q])) (by omega)
    refine ⟨k2, hK2, ?_⟩
    rw [pg, body, r_Closure_filled, bodyM_ap]
    simp [enc, is_variable_tup, sb, sz, e1, e2]
theorem srcAny_hq1 {a : List D} {R : IH} : srcAny (.obj (ih.length + 1)) (hq ih a b c R) = some ⟨a, fun h => decide (h[ih.length + 1]? = some (.lst a))⟩ := by
  simp [srcAny]
theorem value_ok (cx : Cx U) (g : Good U S) (cl : Clo S S.length) (ac : Acy S) : ∀ d, d ≤ 60 → ValOk ih U S b c R d := by
  intro d
  induction d using Nat.strongRecOn with
  | ind d IH =>
    intro hd60 m x kn hK hx hd hm
    obtain ⟨m, rfl⟩ : ∃ j, m = j + 2 := ⟨m - 2, by omega⟩
    have hSl : S.length < 1000000 := Nat.lt_of_le_of_lt g.len cx.sz
    have hUl : U.length < 1000 := by
      have := cx.sz
      rcases Nat.lt_or_ge U.length 1000 with h | h
      · exact h
      · have := Nat.mul_le_mul h h
        omega
    have hkl := hK.len
    have hkl2 : (encA kn).length < 16777216 := by
      rw [encA_len]
      omega
    have hkn : ∀ kn : AL, (hk ih S b c R kn)[ih.length + (4 + R.length)]? = some (.dct (encA kn)) := fun kn => by simp
    rw [pg, body, r_Closure_value, bodyM_ap]
    cases e : kn.lookup x with
    | some t =>
      have := hK.look e
      subst this
      refine ⟨kn, hK, ?_⟩
      simp [encA_look, e, fIx_obj (hkn kn)]
    | none =>
      have hU1 : ∀ y ∈ S, y.1.dep ≤ 7 := fun y hy => cx.dep _ (g.inU y hy).1
      let ρ0 : Env := [some (.obj ih.length), some (.int x), some (.obj (ih.length + (4 + R.length))), none, none, none, none, none, none]
      have t1 := told_loop (h := hk ih S b c R kn) (ih := ih) (ρ := ρ0) (x := x) hU1 (by simp) rfl (by simp [ρ0]) S [] (fun _ h => h) (by simp; omega)
      have t2 := whole_loop (m := m) (h := hk ih S b c R kn) (ρ := [some (.obj ih.length), some (.int x), some (.obj (ih.length + (4 + R.length))), some (.lst ((told S x).map enc)), none, none, none, none, none]) (by simp) (told S x) [] (by have := told_prs_len (S := S) (x := x); simp; omega)
      simp only [List.nil_append] at t1 t2
      have ew : (told S x).filter (fun t => !isV t) = whole S x := rfl
      rw [ew] at t2
      cases hw : whole S x with
      | nil =>
        obtain ⟨kn', hK', e1, e2⟩ := hK.put hx
        refine ⟨kn', hK', ?_⟩
        have hv := vars_only (ts := told S x) (by rw [ew, hw])
        have hva := va_none cl ac hw
        have hmin : fMinL [.lst (.int x :: ((told S x).map vnum).map fun y : Nat => D.int (y : Int))] (hk ih S b c R kn) = some (.int (vmin S x : Nat), hk ih S b c R kn) := by
          simp only [fMinL, f1, listOf, Option.bind_some, asInts_cons, asInts_map, Option.map_some, minI]
          rw [vmin, ← foldmin_cast]
        have hlen : 1 + (told S x).length ≤ 16777216 := by
          have := told_prs_len (S := S) (x := x)
          omega
        rw [hw] at t2
        have e4 : enc (va S x) = .int (vmin S x : Nat) := by
          rw [hva]
          rfl
        rw [e4] at e1
        rw [hv] at t1 t2
        simp [ρ0] at t1 t2 hmin
        have f1 := fIx_obj (b := .int x) (hkn kn')
        simp only [hkeyI, Option.bind_some, encA_look, e2, Option.map_some] at f1
        simp only [hk] at t1 t2 hmin f1 hkn ⊢
        simp [encA_look, e, srcAny_hq1, t1, t2, sz, hlen, hmin, hkl2, e1, f1]
      | cons t0 r =>
        obtain ⟨e1, e2, e3⟩ := va_whole cl ac hw
        have ht0 : t0.dep ≤ 7 := by
          obtain ⟨y, hy, q⟩ := List.mem_map.mp e1
          simp only [Prod.mk.injEq] at q
          rw [← q.2]
          exact cx.dep _ (g.inU y hy).2
        have ht0U : t0 ∈ U := by
          obtain ⟨y, hy, q⟩ := List.mem_map.mp e1
          simp only [Prod.mk.injEq] at q
          rw [← q.2]
          exact (g.inU y hy).2
        have hd0 : 0 < d := by
          have h1 : 0 < (sb (va S) t0).dep := by
            cases t0 <;> simp [isV] at e2 <;> simp [sb, dep]
          rw [e3] at hd
          omega
        obtain ⟨d, rfl⟩ : ∃ j, d = j + 1 := ⟨d - 1, by omega⟩
        have hy : ∀ y ∈ occ t0, Tm.v y ∈ U ∧ (va S y).dep ≤ d := fun y hy => by
          refine ⟨occ_U cx.cl ht0U y hy, ?_⟩
          have := dep_occ_lt (σ := va S) e2 hy
          rw [e3] at hd
          omega
        obtain ⟨k1, hK1, f0⟩ := filled_ok (IH d (Nat.lt_succ_self _) (by omega)) t0 (m + 1) kn hK hy (by omega)
        obtain ⟨kn', hK', p1, p2⟩ := hK1.put hx
        rw [e3] at p1
        have hk1l : (encA k1).length < 16777216 := by
          have := hK1.len
          rw [encA_len]
          omega
        refine ⟨kn', hK', ?_⟩
        rw [hw] at t2
        have g1 := fIx_obj (b := .int x) (hkn kn')
        simp only [hkeyI, Option.bind_some, encA_look, p2, Option.map_some] at g1
        simp only [hk, ρ0] at t1 t2 g1 hkn f0 ⊢
        simp only [List.map_cons] at t2
        simp [encA_look, e, srcAny_hq1, t1, t2, sz, f0, hk1l, p1, g1]
end
end Gh.K67
end
section
set_option Elab.async false
set_option linter.all false
set_option maxRecDepth 100000
/-! k67: unify. -/
namespace Gh.K67
open PySem PySem.Spec PyProof.Rows L2 Tm
def subs : Tm → List Tm
  | .v n => [.v n]
  | .k h => [.k h]
  | .u h t => .u h t :: subs t
  | .b h s t => .b h s t :: (subs s ++ subs t)
theorem subs_self : ∀ t : Tm, t ∈ subs t
  | .v n => by simp [subs]
  | .k h => by simp [subs]
  | .u h t => by simp [subs]
  | .b h s t => by simp [subs]
theorem subs_cl : ∀ {s t : Tm}, t ∈ subs s → ∀ a ∈ args t, a ∈ subs s
  | .v n, t, h, a, ha => by
    simp [subs] at h
    subst h
    simp [args] at ha
  | .k c, t, h, a, ha => by
    simp [subs] at h
    subst h
    simp [args] at ha
  | .u c s, t, h, a, ha => by
    rw [subs] at h ⊢
    rcases List.mem_cons.mp h with rfl | h
    · simp [args] at ha
      subst ha
      exact List.mem_cons_of_mem _ (subs_self _)
    · exact List.mem_cons_of_mem _ (subs_cl h a ha)
  | .b c s s', t, h, a, ha => by
    rw [subs] at h ⊢
    rcases List.mem_cons.mp h with rfl | h
    · simp [args] at ha
      rcases ha with rfl | rfl
      · exact List.mem_cons_of_mem _ (List.mem_append_left _ (subs_self _))
      · exact List.mem_cons_of_mem _ (List.mem_append_right _ (subs_self _))
    · rcases List.mem_append.mp h with h | h
      · exact List.mem_cons_of_mem _ (List.mem_append_left _ (subs_cl h a ha))
      · exact List.mem_cons_of_mem _ (List.mem_append_right _ (subs_cl h a ha))
theorem subs_len : ∀ t : Tm, (subs t).length = size t
  | .v n => rfl
  | .k h => rfl
  | .u h t => by simp [subs, size, subs_len t]
  | .b h s t => by simp [subs, size, subs_len s, subs_len t]
theorem subs_dep : ∀ {s t : Tm}, t ∈ subs s → t.dep ≤ s.dep
  | .v n, t, h => by
    simp [subs] at h
    rw [h]
    exact Nat.le_refl _
  | .k c, t, h => by
    simp [subs] at h
    rw [h]
    exact Nat.le_refl _
  | .u c s, t, h => by
    rw [subs] at h
    rcases List.mem_cons.mp h with rfl | h
    · exact Nat.le_refl _
    · have := subs_dep h
      simp only [dep]
      omega
  | .b c s s', t, h => by
    rw [subs] at h
    rcases List.mem_cons.mp h with rfl | h
    · exact Nat.le_refl _
    · simp only [dep]
      rcases List.mem_append.mp h with h | h
      · have := subs_dep h
        omega
      · have := subs_dep h
        omega
theorem subs_v : ∀ {s : Tm} {x : Nat}, Tm.v x ∈ subs s → x ∈ occ s
  | .v n, x, h => by
    simp [subs] at h
    simp [occ, h]
  | .k c, x, h => by simp [subs] at h
  | .u c s, x, h => by
    rw [subs] at h
    rcases List.mem_cons.mp h with h | h
    · cases h
    · exact subs_v (s := s) h
  | .b c s s', x, h => by
    rw [subs] at h
    rcases List.mem_cons.mp h with h | h
    · cases h
    · rcases List.mem_append.mp h with h | h
      · simp [occ, subs_v h]
      · simp [occ, subs_v h]
def uni (P : PL) : List Tm := P.flatMap fun p => subs p.1 ++ subs p.2
theorem uni_mem {P : PL} {p : Tm × Tm} (h : p ∈ P) : p.1 ∈ uni P ∧ p.2 ∈ uni P := by
  simp only [uni, List.mem_flatMap]
  exact ⟨⟨p, h, List.mem_append_left _ (subs_self _)⟩, ⟨p, h, List.mem_append_right _ (subs_self _)⟩⟩
theorem uni_cl {P : PL} : ∀ t ∈ uni P, ∀ a ∈ args t, a ∈ uni P := by
  intro t ht a ha
  simp only [uni, List.mem_flatMap] at ht ⊢
  obtain ⟨p, hp, h⟩ := ht
  refine ⟨p, hp, ?_⟩
  rcases List.mem_append.mp h with h | h
  · exact List.mem_append_left _ (subs_cl h a ha)
  · exact List.mem_append_right _ (subs_cl h a ha)
theorem uni_v {P : PL} {x : Nat} (h : Tm.v x ∈ uni P) : ∃ p ∈ P, x ∈ occ p.1 ∨ x ∈ occ p.2 := by
  simp only [uni, List.mem_flatMap] at h
  obtain ⟨p, hp, h⟩ := h
  refine ⟨p, hp, ?_⟩
  rcases List.mem_append.mp h with h | h
  · exact .inl (subs_v h)
  · exact .inr (subs_v h)
/-- makes all pairs equal -/
def Uni (P : PL) (θ : Nat → Tm) : Prop := ∀ p ∈ P, sb θ p.1 = sb θ p.2
theorem ntG_grow {U : List Tm} {P0 : PL} : ∀ {P : PL} {i : Nat} {S : List Stp}, (∀ p ∈ P, p ∈ P0) → (∀ p ∈ P, p.1 ∈ U ∧ p.2 ∈ U) → Grow U (Uni P0) S (ntG i P S)
  | [], i, S, _, _ => .refl S
  | p :: P, i, S, h0, hU => by
    rw [ntG]
    have hp := List.mem_cons_self (a := p) (l := P)
    have a : Grow U (Uni P0) S (nt S p.1 p.2 (.gv i)) := .step (.refl S) (hU p hp).1 (hU p hp).2 (fun θ hθ _ => hθ p (h0 p hp)) (by simp [refs])
    exact a.trans (ntG_grow (fun q hq => h0 q (List.mem_cons_of_mem _ hq)) fun q hq => hU q (List.mem_cons_of_mem _ hq))
theorem ntG_rl : ∀ {P : PL} {i : Nat} {S : List Stp}, ∀ p ∈ P, Rl (ntG i P S) p.1 p.2
  | q :: P, i, S, p, hp => by
    rw [ntG]
    rcases List.mem_cons.mp hp with rfl | h
    · have : ∀ (P : PL) (i : Nat) (S : List Stp), S <+: ntG i P S := by
        intro P
        induction P with
        | nil => exact fun _ _ => List.prefix_rfl
        | cons p P ih => exact fun i S => (nt_pre ..).trans (ih _ _)
      exact (nt_rl ..).mono (this _ _ _)
    · exact ntG_rl p h
structure Clos (P : PL) (S : List Stp) : Prop where
  good : Good (uni P) S
  clo : Clo S S.length
  sound : ∀ θ, Uni P θ → Sound θ S
  given : ∀ p ∈ P, Rl S p.1 p.2
theorem clos_ok (P : PL) : Clos P (clos (uni P) P) := by
  have hU : ∀ p ∈ P, p.1 ∈ uni P ∧ p.2 ∈ uni P := fun p hp => uni_mem hp
  have a := ntG_grow (U := uni P) (P0 := P) (P := P) (i := 0) (S := []) (fun _ h => h) hU
  have g1 := a.good .nil
  have c := clo_ok (G := Uni P) (n := (uni P).length * (uni P).length + 1) (i := 0) uni_cl g1 ⟨by omega, by omega, by omega⟩ (Nat.zero_le _) (by omega)
  have b := a.trans c.1
  exact ⟨b.good .nil, c.2, fun θ hθ => b.sound hθ (by intro x hx; cases hx), fun p hp => (ntG_rl p hp).mono c.1.pre⟩
theorem not_uni_clash {P : PL} {S : List Stp} (h : Clos P S) {i : Nat} {x : Stp} (hx : S[i]? = some x) (hc : clsh x.1 x.2.1 = true) : ¬ ∃ θ, Uni P θ := by
  rintro ⟨θ, hθ⟩
  simp only [clsh, Bool.and_eq_true, Bool.not_eq_true'] at hc
  exact clash_bad hc.1.1 hc.1.2 hc.2 (h.sound θ hθ x (List.mem_of_getElem? hx))
theorem not_uni_circle {P : PL} {S : List Stp} (h : Clos P S) {s : Nat} (hp : Pth S s s) : ¬ ∃ θ, Uni P θ := by
  rintro ⟨θ, hθ⟩
  have := hp.lt (h.sound θ hθ)
  omega
theorem uni_va {P : PL} {S : List Stp} (h : Clos P S) (n : NoClash S) (a : Acy S) : Uni P (va S) := fun p hp => Rl.sound (va_sound h.clo a n) (h.given p hp)
theorem va_mgu' {P : PL} {S : List Stp} (h : Clos P S) (a : Acy S) {θ : Nat → Tm} (hθ : Uni P θ) (x : Nat) : sb θ (va S x) = θ x := va_gen h.clo a (h.sound θ hθ) x
theorem va_out {P : PL} {S : List Stp} (h : Clos P S) (a : Acy S) {x : Nat} (hx : Tm.v x ∉ uni P) : va S x = .v x := by
  have h1 : told S x = [] := by
    rw [List.eq_nil_iff_forall_not_mem]
    intro t ht
    obtain ⟨y, hy, e⟩ := List.mem_map.mp (told_mem.mp ht)
    simp only [Prod.mk.injEq] at e
    exact hx (e.1 ▸ (h.good.inU y hy).1)
  have h2 : whole S x = [] := by simp [whole, h1]
  rw [va_none h.clo a h2, vmin, h1]
  rfl
/-! the variables of pairs -/
def pvs (P : PL) : List Nat := P.flatMap fun p => vrs p.1 ++ vrs p.2
theorem mem_pvs {P : PL} {x : Nat} : x ∈ pvs P ↔ ∃ p ∈ P, x ∈ occ p.1 ∨ x ∈ occ p.2 := by
  simp [pvs, List.mem_flatMap, mem_vrs]
theorem var_loop {h : IH} {ρ : Env} (h11 : 11 < ρ.length) : ∀ (xs acc : List Nat), acc.length + xs.length ≤ 1000000 → loopC (fun _ => true) (gNm 11) tTrue (emD (xVar 11) (xC (.bl true))) ρ (intL xs) h (kvV acc) = some (kvV (dd acc xs), h)
  | [], acc, _ => by simp [intL, dd]
  | x :: xs, acc, hz => by
    simp only [List.length_cons] at hz
    have hl := dd_len (xs := [x]) (acc := acc)
    simp only [List.length_cons, List.length_nil] at hl
    have g := var_loop (h := h) h11 xs (dd acc [x]) (by omega)
    have e4 : intL (x :: xs) = .int x :: intL xs := rfl
    have e5 : dd acc (x :: xs) = dd (dd acc [x]) xs := by rw [← dd_append]; rfl
    have hlt : (kvV acc).length < 16777216 := by
      rw [kvV_len]
      omega
    rw [e4, e5, loopC_cons]
    simp [h11, sz, hlt, kvV_put, g]
theorem pvs_loop {m : Nat} {h : IH} {ρ : Env} (hr : ρ.length = 12) : ∀ (P : PL) (acc : List Nat), (∀ p ∈ P, p.1.dep ≤ 7 ∧ p.2.dep ≤ 7) → acc.length + 510 * P.length ≤ 1000000 →
    loopC (fun _ => true) (gNm 9) tTrue (midC (xSrc srcAny (xVar 9)) [10, 11] (gNm 10) tTrue (midC (xSrc srcAny (xArgs ((progs (m + 2)).1 .variables_of) (xCons (xVar 10) xNil))) [11] (gNm 11) tTrue (emD (xVar 11) (xC (.bl true))))) ρ (encP P) h (kvV acc) = some (kvV (dd acc (pvs P)), h)
  | [], acc, _, _ => by simp [encP, pvs, dd]
  | p :: P, acc, hd, hz => by
    simp only [List.length_cons] at hz
    obtain ⟨d1, d2⟩ := hd p (List.mem_cons_self ..)
    have z1 := size_7 d1
    have z2 := size_7 d2
    have l1 := vrs_len (t := p.1)
    have l2 := vrs_len (t := p.2)
    have q1 := dd_len (xs := vrs p.1) (acc := acc)
    have q2 := dd_len (xs := vrs p.2) (acc := dd acc (vrs p.1))
    have v1 := variables_of_ok (m := m) (t := p.1) (ih := h) (by omega)
    have v2 := variables_of_ok (m := m) (t := p.2) (ih := h) (by omega)
    have hi : ∀ l : List Nat, (List.map (fun x : Nat => D.int (x : Int)) l) = intL l := fun l => rfl
    rw [hi] at v1 v2
    have g1 := fun ρ hρ => var_loop (h := h) (ρ := ρ) hρ (vrs p.1) acc (by omega)
    have g2 := fun ρ hρ => var_loop (h := h) (ρ := ρ) hρ (vrs p.2) (dd acc (vrs p.1)) (by omega)
    have g := pvs_loop (m := m) (h := h) hr P (dd (dd acc (vrs p.1)) (vrs p.2)) (fun q hq => hd q (List.mem_cons_of_mem _ hq)) (by omega)
    have e4 : encP (p :: P) = .tup [enc p.1, enc p.2] :: encP P := rfl
    have e5 : dd acc (pvs (p :: P)) = dd (dd (dd acc (vrs p.1)) (vrs p.2)) (pvs P) := by
      rw [← dd_append, ← dd_append]
      simp [pvs]
    have r9 : 9 < ρ.length := by omega
    have r10 : 10 < ρ.length := by omega
    have r11 : 11 < ρ.length := by omega
    rw [e4, e5, loopC_cons]
    simp [r9, r10, r11, v1, v2, g1, g2, g]
end Gh.K67
end
section
set_option Elab.async false
set_option linter.all false
set_option maxRecDepth 100000
/-! k67: unify: the run. -/
namespace Gh.K67
open PySem PySem.Spec PyProof.Rows L2 Tm
noncomputable def vaL (S : List Stp) (xs : List Nat) : AL := xs.map fun x => (x, va S x)
theorem vaL_look {S : List Stp} {xs : List Nat} {x : Nat} : (vaL S xs).lookup x = if x ∈ xs then some (va S x) else none := by
  induction xs with
  | nil => simp [vaL]
  | cons y xs ih =>
    unfold vaL at ih ⊢
    rw [List.map_cons, List.lookup]
    by_cases e : x = y
    · subst e
      simp
    · have e1 : (x == y) = false := by simpa using e
      rw [e1, ih]
      simp [e]
theorem vaL_keyed {S : List Stp} {xs : List Nat} (h : xs.Nodup) : Tm.Keyed (vaL S xs) := by
  unfold Tm.Keyed vaL
  rw [List.map_map]
  have : ((fun x => x.1) ∘ fun x => (x, va S x)) = (id : Nat → Nat) := rfl
  rw [this, List.map_id]
  exact h
theorem val_loop {m : Nat} {ih : IH} {U : List Tm} {S : List Stp} {b c : List (D × D)} {R : IH} {ρ : Env} {d : Nat} (hV : ValOk ih U S b c R d) (hm : 12 * d + 12 ≤ m) (hdep : ∀ x, (va S x).dep ≤ d) (h1 : ρ[1]? = some (some (.obj ih.length))) (h6 : ρ[6]? = some (some (.obj (ih.length + (4 + R.length))))) (h11 : 11 < ρ.length) :
    ∀ (xs done : List Nat) (kn : AL), (done ++ xs).Nodup → (∀ x ∈ xs, Tm.v x ∈ U) → done.length + xs.length ≤ 1000000 → Kn U S kn →
    ∃ kn', Kn U S kn' ∧ loopC (fun _ => true) (gNm 11) tTrue (emD (xVar 11) (xCallM "Closure" "value" ((progs m).1 .Closure_value) (xVar 1) (xCons (xVar 11) (xCons (xVar 6) xNil)))) ρ (intL xs) (hk ih S b c R kn) (encA (vaL S done)) = some (encA (vaL S (done ++ xs)), hk ih S b c R kn')
  | [], done, kn, hn, hU, hz, hK => ⟨kn, hK, by simp [intL]⟩
  | x :: xs, done, kn, hn, hU, hz, hK => by
    simp only [List.length_cons] at hz
    obtain ⟨k1, hK1, e1⟩ := hV m x kn hK (hU x (List.mem_cons_self ..)) (hdep x) hm
    obtain ⟨k2, hK2, e2⟩ := val_loop hV hm hdep h1 h6 h11 xs (done ++ [x]) k1 (by simpa using hn) (fun y hy => hU y (List.mem_cons_of_mem _ hy)) (by simp; omega) hK1
    refine ⟨k2, hK2, ?_⟩
    have hx : x ∉ done := by
      intro hx
      rw [List.nodup_append] at hn
      exact hn.2.2 x hx x (List.mem_cons_self ..) rfl
    have hlk : (vaL S done).lookup x = none := by rw [vaL_look, if_neg hx]
    have hput := encA_new (t := va S x) hlk
    have hap : vaL S done ++ [(x, va S x)] = vaL S (done ++ [x]) := by simp [vaL]
    rw [hap] at hput
    have hlt : (encA (vaL S done)).length < 16777216 := by
      rw [encA_len, vaL, List.length_map]
      omega
    have e4 : intL (x :: xs) = .int x :: intL xs := rfl
    have e5 : done ++ x :: xs = (done ++ [x]) ++ xs := by simp
    have s1 : (ρ.set 11 (some (.int x)))[1]? = some (some (.obj ih.length)) := by rw [get_set_ne (by omega), h1]
    have s6 : (ρ.set 11 (some (.int x)))[6]? = some (some (.obj (ih.length + (4 + R.length)))) := by rw [get_set_ne (by omega), h6]
    have s11 : (ρ.set 11 (some (.int x)))[11]? = some (some (.int x)) := by simp [h11]
    rw [e4, e5, ← e2, loopC_cons]
    simp only [hk] at e1 ⊢
    simp [s1, s6, s11, e1, hlt, hput, sz]
theorem fil_loop {h : IH} {S : List Stp} {ρ : Env} {vs : List Nat} (hdep : ∀ x, (va S x).dep ≤ 60) (h8 : ρ[8]? = some (some (.dct ((encA (vaL S vs)).map (·.1)) ((encA (vaL S vs)).map (·.2))))) (h11 : 11 < ρ.length) :
    ∀ (xs done : List Nat), (done ++ xs).Nodup → (∀ x ∈ xs, x ∈ vs) → done.length + xs.length ≤ 1000000 →
    loopC (fun _ => true) (gNm 11) (tVal (xBin fNe (xBin fIx (xVar 8) (xVar 11)) (xVar 11))) (emD (xVar 11) (xBin fIx (xVar 8) (xVar 11))) ρ (intL xs) h (encA (vaL S (done.filter fun x => decide (va S x ≠ .v x)))) = some (encA (vaL S ((done ++ xs).filter fun x => decide (va S x ≠ .v x))), h)
  | [], done, hn, hv, hz => by simp [intL]
  | x :: xs, done, hn, hv, hz => by
    simp only [List.length_cons] at hz
    have hx : x ∉ done := by
      intro hx
      rw [List.nodup_append] at hn
      exact hn.2.2 x hx x (List.mem_cons_self ..) rfl
    have g := fil_loop (h := h) hdep h8 h11 xs (done ++ [x]) (by simpa using hn) (fun y hy => hv y (List.mem_cons_of_mem _ hy)) (by simp; omega)
    have e4 : intL (x :: xs) = .int x :: intL xs := rfl
    have e5 : done ++ x :: xs = (done ++ [x]) ++ xs := by simp
    have s8 : (ρ.set 11 (some (.int x)))[8]? = some (some (.dct ((encA (vaL S vs)).map (·.1)) ((encA (vaL S vs)).map (·.2)))) := by rw [get_set_ne (by omega), h8]
    have s11 : (ρ.set 11 (some (.int x)))[11]? = some (some (.int x)) := by simp [h11]
    have hl : dlook (encA (vaL S vs)) (.num x) = some (enc (va S x)) := by
      rw [encA_look, vaL_look, if_pos (hv x (List.mem_cons_self ..))]
      rfl
    have hne := fNe_enc (s := va S x) (t := .v x) (Nat.le_trans (hdep x) (by omega)) (by simp [dep]) h
    simp only [enc] at hne
    have hdl : (encA (vaL S (done.filter fun x => decide (va S x ≠ .v x)))).length < 16777216 := by
      rw [encA_len, vaL, List.length_map]
      have := List.length_filter_le (fun x => decide (va S x ≠ .v x)) done
      omega
    rw [e4, e5, ← g, loopC_cons]
    by_cases q : va S x = .v x
    · have hf : (done ++ [x]).filter (fun x => decide (va S x ≠ .v x)) = done.filter fun x => decide (va S x ≠ .v x) := by simp [q]
      rw [hf]
      rw [q] at hne hl
      simp only [if_true, gNm_ap, Option.bind_some, tVal_ap, xBin_ap, xVar_ap, s8, s11, fIx_dctv, Tm.zip_fst_snd, hkeyI, hl, Option.map_some, hne, asB_bl, decide_true, Bool.not_true, Bool.false_eq_true, if_false]
    · have hf : (done ++ [x]).filter (fun x => decide (va S x ≠ .v x)) = (done.filter fun x => decide (va S x ≠ .v x)) ++ [x] := by simp [q]
      have hlk : (vaL S (done.filter fun x => decide (va S x ≠ .v x))).lookup x = none := by
        rw [vaL_look, if_neg]
        intro hm
        exact hx (List.mem_filter.mp hm).1
      have hput := encA_new (t := va S x) hlk
      have hap : vaL S (done.filter fun x => decide (va S x ≠ .v x)) ++ [(x, va S x)] = vaL S ((done.filter fun x => decide (va S x ≠ .v x)) ++ [x]) := by simp [vaL]
      rw [hap] at hput
      rw [hf]
      simp only [if_true, gNm_ap, Option.bind_some, tVal_ap, xBin_ap, xVar_ap, s8, s11, fIx_dctv, Tm.zip_fst_snd, hkeyI, hl, Option.map_some, hne, q, asB_bl, decide_false, Bool.not_false, emD_ap, sz, hdl, hput]
/-- what unify's values are, as a row -/
noncomputable def mgu (S : List Stp) (vs : List Nat) : AL := srt (vaL S (vs.filter fun x => decide (va S x ≠ .v x)))
theorem mgu_keyed {S : List Stp} {vs : List Nat} (h : vs.Nodup) : Tm.Keyed (mgu S vs) := srt_keyed (vaL_keyed (h.sublist (List.filter_sublist ..)))
theorem mgu_fn {S : List Stp} {vs : List Nat} (h : vs.Nodup) (ho : ∀ x, x ∉ vs → va S x = .v x) : fn (mgu S vs) = va S := by
  funext x
  rw [fn, mgu, srt_lookup (vaL_keyed (h.sublist (List.filter_sublist ..))), vaL_look]
  by_cases q : va S x = .v x
  · simp [q]
  · have : x ∈ vs := by
      by_cases z : x ∈ vs
      · exact z
      · exact absurd (ho x z) q
    simp [q, this]
end Gh.K67
end
section
set_option Elab.async false
set_option linter.all false
set_option maxRecDepth 100000
/-! k67: unify: the whole. -/
namespace Gh.K67
open PySem PySem.Spec PyProof.Rows L2 Tm
/-- what unify gives -/
def UniOk (B : Nat) (P : PL) (r : D) : Prop := (∃ l : AL, r = .tup [.str "unified", .tupx (prD l)] ∧ Tm.Keyed l ∧ Uni P (fn l) ∧ (∀ x, (fn l x).dep ≤ B) ∧ ∀ θ, Uni P θ → ∀ x, sb θ (fn l x) = θ x) ∨
  (∃ rest h, (h = ("clash" : Str) ∨ h = ("loop" : Str)) ∧ r = .tup (.str h :: rest) ∧ ¬ ∃ θ, Uni P θ)
theorem clean_w {n : Nat} {w : Str} {ds : List D} (h : cleans n ds = true) : clean n (.tup (.str w :: ds)) = true := by
  simp [clean, cleans, h]
theorem unify_ok {m B : Nat} {ih : IH} {P : PL} (hB : B ≤ 10) (hd : ∀ p ∈ P, p.1.dep ≤ 7 ∧ p.2.dep ≤ 7) (hU : (uni P).length * (uni P).length < 1000000) (hP : P.length ≤ 1000) (hva : NoClash (clos (uni P) P) → Acy (clos (uni P) P) → ∀ x, (va (clos (uni P) P) x).dep ≤ B) (hm : 140 ≤ m) :
    ∃ r, (progs m).1 .unify [.lst (encP P)] ih = some (r, ih) ∧ UniOk B P r := by
  obtain ⟨m, rfl⟩ : ∃ j, m = j + 6 := ⟨m - 6, by omega⟩
  have cx : Cx (uni P) := ⟨fun t ht => by
    simp only [uni, List.mem_flatMap] at ht
    obtain ⟨p, hp, h⟩ := ht
    rcases List.mem_append.mp h with h | h
    · exact Nat.le_trans (subs_dep h) (hd p hp).1
    · exact Nat.le_trans (subs_dep h) (hd p hp).2, hU, uni_cl⟩
  have hcl := clos_ok P
  generalize hS : clos (uni P) P = S at *
  have g := hcl.good
  have hSl : S.length < 1000000 := Nat.lt_of_le_of_lt g.len hU
  obtain ⟨L, R, hL, e1⟩ := init_ok (m := m + 1) (ih := ih) (P := P) cx fun p hp => uni_mem hp
  rw [hS] at e1 hL
  obtain ⟨d2, e2, c2⟩ := clash_ok (m := m + 3) (ih := ih) (S := S) (L := L) (R := R)
  have hf1 : fFld "Closure" "steps" (.obj ih.length) (hc ih S L R) = some (.obj (ih.length + 1), hc ih S L R) := by simp [hc]
  have hi0 : ∀ (L : List (Tm × Nat)) (R : IH), (hc ih S L R)[ih.length]? = some (.ins "Closure" [("steps", .obj (ih.length + 1)), ("numbers", .obj (ih.length + 2)), ("lefts", .obj (ih.length + 3))]) := fun L R => by simp [hc]
  have hap : ∀ (L : List (Tm × Nat)) (R : IH), ∃ r, hc ih S L R = ih ++ r := fun L R => ⟨_, rfl⟩
  rcases c2 with ⟨rfl, nc⟩ | ⟨i, x, hx, hxc, rfl⟩
  · obtain ⟨d3, R3, e3, c3⟩ := circle_ok (m := m + 1) (ih := ih) (L := L) (R := R) cx g
    have hf3 : fFld "Closure" "steps" (.obj ih.length) (hc ih S L R3) = some (.obj (ih.length + 1), hc ih S L R3) := by simp [hc]
    rcases c3 with ⟨way, rfl, ⟨s, hs⟩, hw1, hw2⟩ | ⟨rfl, ac⟩
    · obtain ⟨a, b, e4, ca, cb⟩ := cut_ok (m := m + 3) (ih := ih) (S := S) (L := L) (R := R3) (last := .tup (intL way)) (l := way) g.rf (by omega) (fun _ => rfl) (fun _ => rfl) hw1 hw2
      refine ⟨.tup [.str "loop", .tup a, .tup b], ?_, .inr ⟨[.tup a, .tup b], "loop", .inr rfl, rfl, not_uni_circle hcl hs⟩⟩
      rw [pg, body, r_unify]
      obtain ⟨r, hr⟩ := hap L R3
      refine pureM_of (r := r) ?_ (by simp [clean, cleans, cleans_mono (Nat.zero_le ih.length) a ca, cleans_mono (Nat.zero_le ih.length) b cb])
      rw [← hr, bodyM_ap]
      have e1' : (progs (m + 5)).2 .Closure_init [.obj ih.length, .lst (encP P)] (ih ++ [.ins "Closure" []]) = some (.non, hc ih S L R) := e1
      simp [xMake, e1', hi0, e2, e3, isNon, hf3, e4, sz]
    · let vs := (dd [] (pvs P)).mergeSort fun a b => decide (a ≤ b)
      have hvn : vs.Nodup := (List.mergeSort_perm ..).nodup_iff.mpr (dd_nodup List.nodup_nil)
      have hvm : ∀ x, x ∈ vs ↔ ∃ p ∈ P, x ∈ occ p.1 ∨ x ∈ occ p.2 := fun x => by
        show x ∈ (dd [] (pvs P)).mergeSort _ ↔ _
        rw [List.mem_mergeSort, dd_mem, mem_pvs]
        simp
      have hvU : ∀ x ∈ vs, Tm.v x ∈ uni P := fun x hx => by
        obtain ⟨p, hp, h⟩ := (hvm x).mp hx
        rcases h with h | h
        · exact occ_U uni_cl (uni_mem hp).1 x h
        · exact occ_U uni_cl (uni_mem hp).2 x h
      have hvo : ∀ x, x ∉ vs → va S x = .v x := fun x hx => va_out hcl ac fun h => hx ((hvm x).mpr (uni_v h))
      have hvl : vs.length ≤ 1000000 := by
        have h1 := seen_len hvn hvU
        have h2 : (uni P).length < 1000 := by
          rcases Nat.lt_or_ge (uni P).length 1000 with h | h
          · exact h
          · have := Nat.mul_le_mul h h
            omega
        omega
      have hdep := hva nc ac
      have hmf := mgu_fn hvn hvo
      have l1 := fun ρ hρ => pvs_loop (m := m + 3) (h := hc ih S L (R3 ++ [.dct []])) (ρ := ρ) hρ P [] hd (by simp; omega)
      have ek : kvV [] = [] := rfl
      rw [ek] at l1
      have hsort : fSortD [.dct ((kvV (dd [] (pvs P))).map (·.1)) ((kvV (dd [] (pvs P))).map (·.2))] (hc ih S L (R3 ++ [.dct []])) = some (.lst (intL vs), hc ih S L (R3 ++ [.dct []])) := by
        simp only [fSortD_ap, getKvs_dct, Tm.zip_fst_snd, Option.bind_some, kvV_keys, Option.map_some, sortI_cast]
        simp [intL, vs, List.map_map, Function.comp_def]
      have hV := value_ok (ih := ih) (b := kvP (prs S)) (c := kvL ih.length L) (R := R3) cx g hcl.clo ac B (by omega)
      obtain ⟨kn, hK, l2⟩ := val_loop (m := m + 5) (ρ := [some (.lst (encP P)), some (.obj ih.length), some .non, some .non, none, none, some (.obj (ih.length + (4 + R3.length))), some (.lst (intL vs)), none, none, none, none]) hV (by omega) hdep rfl rfl (by simp) vs [] [] (by simpa using hvn) hvU (by simpa using hvl) ⟨List.nodup_nil, by simp⟩
      simp only [List.nil_append] at l2
      have l3 := fil_loop (h := hk ih S (kvP (prs S)) (kvL ih.length L) R3 kn) (S := S) (vs := vs) (ρ := [some (.lst (encP P)), some (.obj ih.length), some .non, some .non, none, none, some (.obj (ih.length + (4 + R3.length))), some (.lst (intL vs)), some (.dct ((encA (vaL S vs)).map (·.1)) ((encA (vaL S vs)).map (·.2))), none, none, none]) (fun x => Nat.le_trans (hdep x) (by omega)) rfl (by simp) vs [] (by simpa using hvn) (fun _ h => h) (by simpa using hvl)
      have e0 : encA (vaL S ([].filter fun x => decide (va S x ≠ .v x))) = [] := rfl
      have e0' : encA (vaL S []) = [] := rfl
      rw [e0] at l3
      rw [e0'] at l2
      simp only [List.nil_append] at l3
      have l4 := pairs_of_ok (m := m + 4) (d := .dct ((encA (vaL S (vs.filter fun x => decide (va S x ≠ .v x)))).map (·.1)) ((encA (vaL S (vs.filter fun x => decide (va S x ≠ .v x)))).map (·.2))) (ih := hk ih S (kvP (prs S)) (kvL ih.length L) R3 kn) (l := vaL S (vs.filter fun x => decide (va S x ≠ .v x))) (by rw [getKvs_dct, Tm.zip_fst_snd])
      refine ⟨.tup [.str "unified", .tupx (prD (mgu S vs))], ?_, .inl ⟨mgu S vs, rfl, mgu_keyed hvn, ?_, ?_, ?_⟩⟩
      · rw [pg, body, r_unify]
        obtain ⟨r, hr⟩ : ∃ r, hk ih S (kvP (prs S)) (kvL ih.length L) R3 kn = ih ++ r := ⟨_, rfl⟩
        refine pureM_of (r := r) ?_ (by simp [clean, cleans, clean_prD])
        rw [← hr, bodyM_ap]
        have e1' : (progs (m + 5)).2 .Closure_init [.obj ih.length, .lst (encP P)] (ih ++ [.ins "Closure" []]) = some (.non, hc ih S L R) := e1
        have hlen : (hc ih S L R3).length = ih.length + (4 + R3.length) := by simp [hc]
        have happ : hc ih S L R3 ++ [.dct []] = hc ih S L (R3 ++ [.dct []]) := by simp [hc]
        have hkc : hc ih S L (R3 ++ [.dct []]) = hk ih S (kvP (prs S)) (kvL ih.length L) R3 [] := rfl
        have hks : (encA (vaL S vs)).map (·.1) = intL vs := by simp [encA, kvs, vaL, intL, List.map_map, Function.comp_def]
        rw [hkc] at l1 hsort happ
        rw [hks] at l3
        simp [xMake, e1', hi0, e2, e3, isNon, hlen, happ]
        rw [l1 _ rfl]
        simp only [Option.bind_some, xArgs_ap, hsort]
        have hks2 : ∀ xs, (encA (vaL S xs)).map (·.1) = intL xs := fun xs => by simp [encA, kvs, vaL, intL, List.map_map, Function.comp_def]
        simp only [hks2] at l3 l4
        simp only [hk] at l2 l3 l4 ⊢
        simp only [ne_eq, decide_not] at l3 l4
        simp [l2, hks2, l3, l4, sz, mgu]
      · rw [hmf]
        exact uni_va hcl nc ac
      · rw [hmf]
        exact hdep
      · rw [hmf]
        exact fun θ hθ x => va_mgu' hcl ac hθ x
  · obtain ⟨a, b, e4, ca, cb⟩ := cut_ok (m := m + 3) (ih := ih) (S := S) (L := L) (R := R) (last := .lst (intL [i])) (l := [i]) g.rf (by omega) (fun _ => rfl) (fun _ => rfl) (by
      intro a ha
      simp at ha
      subst ha
      exact (List.getElem?_eq_some_iff.mp hx).1) (by simp)
    refine ⟨.tup [.str "clash", .tup a], ?_, .inr ⟨[.tup a], "clash", .inl rfl, rfl, not_uni_clash hcl hx hxc⟩⟩
    rw [pg, body, r_unify]
    obtain ⟨r, hr⟩ := hap L R
    refine pureM_of (r := r) ?_ (by simp [clean, cleans, cleans_mono (Nat.zero_le ih.length) a ca])
    rw [← hr, bodyM_ap]
    have e1' : (progs (m + 5)).2 .Closure_init [.obj ih.length, .lst (encP P)] (ih ++ [.ins "Closure" []]) = some (.non, hc ih S L R) := e1
    have ei : intL [i] = [.int i] := rfl
    rw [ei] at e4
    simp [xMake, e1', hi0, e2, isNon, hf1, e4, sz]
end Gh.K67
end
section
set_option Elab.async false
set_option linter.all false
set_option maxRecDepth 100000
/-! k67: the law's tape. -/
namespace Gh.K67
open PySem PySem.Spec PyProof.Rows L2 Tm
@[simp] theorem t_cells_at : (Str.ofString "cells" = Str.ofString "at") = False := eq_false (by decide +kernel)
@[simp] theorem t_cells_left : (Str.ofString "cells" = Str.ofString "left") = False := eq_false (by decide +kernel)
@[simp] theorem t_cells_seed : (Str.ofString "cells" = Str.ofString "seed") = False := eq_false (by decide +kernel)
@[simp] theorem t_cells_salt : (Str.ofString "cells" = Str.ofString "salt") = False := eq_false (by decide +kernel)
@[simp] theorem t_at_cells : (Str.ofString "at" = Str.ofString "cells") = False := eq_false (by decide +kernel)
@[simp] theorem t_at_left : (Str.ofString "at" = Str.ofString "left") = False := eq_false (by decide +kernel)
@[simp] theorem t_at_seed : (Str.ofString "at" = Str.ofString "seed") = False := eq_false (by decide +kernel)
@[simp] theorem t_at_salt : (Str.ofString "at" = Str.ofString "salt") = False := eq_false (by decide +kernel)
@[simp] theorem t_left_cells : (Str.ofString "left" = Str.ofString "cells") = False := eq_false (by decide +kernel)
@[simp] theorem t_left_at : (Str.ofString "left" = Str.ofString "at") = False := eq_false (by decide +kernel)
@[simp] theorem t_left_seed : (Str.ofString "left" = Str.ofString "seed") = False := eq_false (by decide +kernel)
@[simp] theorem t_left_salt : (Str.ofString "left" = Str.ofString "salt") = False := eq_false (by decide +kernel)
@[simp] theorem t_seed_cells : (Str.ofString "seed" = Str.ofString "cells") = False := eq_false (by decide +kernel)
@[simp] theorem t_seed_at : (Str.ofString "seed" = Str.ofString "at") = False := eq_false (by decide +kernel)
@[simp] theorem t_seed_left : (Str.ofString "seed" = Str.ofString "left") = False := eq_false (by decide +kernel)
@[simp] theorem t_seed_salt : (Str.ofString "seed" = Str.ofString "salt") = False := eq_false (by decide +kernel)
@[simp] theorem t_salt_cells : (Str.ofString "salt" = Str.ofString "cells") = False := eq_false (by decide +kernel)
@[simp] theorem t_salt_at : (Str.ofString "salt" = Str.ofString "at") = False := eq_false (by decide +kernel)
@[simp] theorem t_salt_left : (Str.ofString "salt" = Str.ofString "left") = False := eq_false (by decide +kernel)
@[simp] theorem t_salt_seed : (Str.ofString "salt" = Str.ofString "seed") = False := eq_false (by decide +kernel)
structure Tp where
  cells : List Int
  at_ : Int
  left : Int
  seed : Int
  salt : Int
def kvT (T : Tp) : List (D × D) := [(.str "cells", .lst (T.cells.map .int)), (.str "at", .int T.at_), (.str "left", .int T.left), (.str "seed", .int T.seed), (.str "salt", .int T.salt)]
@[simp] theorem tlook_cells {T : Tp} : dlook (kvT T) (.text (Str.ofString "cells")) = some (.lst (T.cells.map .int)) := by simp [kvT, dlook_cons]
@[simp] theorem tlook_at {T : Tp} : dlook (kvT T) (.text (Str.ofString "at")) = some (.int T.at_) := by simp [kvT, dlook_cons]
@[simp] theorem tlook_left {T : Tp} : dlook (kvT T) (.text (Str.ofString "left")) = some (.int T.left) := by simp [kvT, dlook_cons]
@[simp] theorem tlook_seed {T : Tp} : dlook (kvT T) (.text (Str.ofString "seed")) = some (.int T.seed) := by simp [kvT, dlook_cons]
@[simp] theorem tlook_salt {T : Tp} : dlook (kvT T) (.text (Str.ofString "salt")) = some (.int T.salt) := by simp [kvT, dlook_cons]
@[simp] theorem tput_at {T : Tp} {i : Int} {kd : D} : dput (kvT T) kd (.text (Str.ofString "at")) (.int i) = kvT { T with at_ := i } := by
  simp only [dput, tlook_at, Option.isSome_some, if_true]
  simp [kvT]
@[simp] theorem tput_left {T : Tp} {i : Int} {kd : D} : dput (kvT T) kd (.text (Str.ofString "left")) (.int i) = kvT { T with left := i } := by
  simp only [dput, tlook_left, Option.isSome_some, if_true]
  simp [kvT]
@[simp] theorem tput_salt {T : Tp} {i : Int} {kd : D} : dput (kvT T) kd (.text (Str.ofString "salt")) (.int i) = kvT { T with salt := i } := by
  simp only [dput, tlook_salt, Option.isSome_some, if_true]
  simp [kvT]
theorem kvT_len {T : Tp} : (kvT T).length = 5 := rfl
theorem cMul_of {i j : Int} (h1 : -2147483648 ≤ j) (h2 : j ≤ 2147483648) : cMul i j = true := by
  have e1 : (-(2 ^ 64) : Int) < -2147483648 := by decide
  have e2 : (2147483648 : Int) < 2 ^ 64 := by decide
  unfold cMul
  rw [Bool.or_eq_true]
  right
  rw [Bool.and_eq_true]
  exact ⟨decide_eq_true (Int.lt_of_lt_of_le e1 h1), decide_eq_true (Int.lt_of_le_of_lt h2 e2)⟩
theorem fMulI_of {i j : Int} {ih : IH} (h1 : -2147483648 ≤ j) (h2 : j ≤ 2147483648) : fMulI (.int i) (.int j) ih = some (.int (i * j), ih) := by
  show (if cMul i j = true then some (D.int (i * j), ih) else none) = _
  rw [if_pos (cMul_of h1 h2)]
theorem fModI_of {i j : Int} {ih : IH} (h : 0 < j) : fModI (.int i) (.int j) ih = some (.int (i % j), ih) := by
  show (if decide (0 < j) = true then some (D.int (i % j), ih) else none) = _
  rw [if_pos (decide_eq_true h)]
theorem fDivI_of {i j : Int} {ih : IH} (h : 0 < j) (h2 : j < 1073741824) : fDivI (.int i) (.int j) ih = some (.int (i / j), ih) := by
  show (if (decide (0 < j) && decide (j < 1073741824)) = true then some (D.int (i / j), ih) else none) = _
  rw [if_pos (by rw [Bool.and_eq_true]; exact ⟨decide_eq_true h, decide_eq_true h2⟩)]
@[simp] theorem fGtI_int {i j : Int} {ih : IH} : fGtI (.int i) (.int j) ih = some (.bl (decide (j < i)), ih) := rfl
@[simp] theorem fInt_int {i : Int} {ih : IH} : fInt [.int i] ih = some (.int i, ih) := rfl
@[simp] theorem fAbs_int {i : Int} {ih : IH} : fAbs [.int i] ih = some (.int (if i < 0 then -i else i), ih) := rfl
theorem int_31 {i : Int} {ih : IH} : fMulI (.int i) (.int 31) ih = some (.int (i * 31), ih) := fMulI_of (by decide) (by decide)
theorem mod_seed {i : Int} {ih : IH} : fModI (.int i) (.int 2147483647) ih = some (.int (i % 2147483647), ih) := fModI_of (by decide)
theorem mod_salt {i : Int} {ih : IH} : fModI (.int i) (.int 2147483399) ih = some (.int (i % 2147483399), ih) := fModI_of (by decide)
theorem int_48 {i : Int} {ih : IH} : fMulI (.int i) (.int 48271) ih = some (.int (i * 48271), ih) := fMulI_of (by decide) (by decide)
theorem int_69 {i : Int} {ih : IH} : fMulI (.int i) (.int 69621) ih = some (.int (i * 69621), ih) := fMulI_of (by decide) (by decide)
theorem int_40 {i : Int} {ih : IH} : fMulI (.int i) (.int 40692) ih = some (.int (i * 40692), ih) := fMulI_of (by decide) (by decide)
theorem int_10 {i : Int} {ih : IH} : fMulI (.int i) (.int 10) ih = some (.int (i * 10), ih) := fMulI_of (by decide) (by decide)
theorem int_mm {i : Int} {ih : IH} : fMulI (.int (i % 2147483647)) (.int (i % 2147483647)) ih = some (.int (i % 2147483647 * (i % 2147483647)), ih) := by
  have h1 := Int.emod_nonneg i (b := 2147483647) (by decide)
  have h2 := Int.emod_lt_of_pos i (b := 2147483647) (by decide)
  exact fMulI_of (by omega) (by omega)
theorem ySeq_nx {a b : MS} {ρ ρ1 : Env} {ih ih1 : IH} (h : a ρ ih = some (.nx, ρ1, ih1)) : ySeq a b ρ ih = b ρ1 ih1 := by
  rw [ySeq_ap, h]
  rfl
theorem bodyM_rt {P N : Nat} {b : MS} {ds : List D} {ih ih' : IH} {d : D} {ρ : Env} (hl : ds.length = P) (h : b (ds.map some ++ List.replicate (N - P) none) ih = some (.rt d, ρ, ih')) : bodyM P N b ds ih = some (d, ih') := by
  rw [bodyM_ap, if_pos hl, h]
  rfl
/-- the tape stands at a handle -/
structure TpAt (ih : IH) (n : Nat) (T : Tp) : Prop where
  at_ : ih[n]? = some (.dct (kvT T))
  nn : 0 ≤ T.at_
theorem TpAt.set {ih : IH} {n : Nat} {T T' : Tp} (h : TpAt ih n T) (h' : 0 ≤ T'.at_) : TpAt (ih.set n (.dct (kvT T'))) n T' := ⟨get_set h.at_, h'⟩
theorem fIx_T {ih : IH} {n : Nat} {T : Tp} (h : ih[n]? = some (.dct (kvT T))) {x : Str} : fIx (.obj n) (.str x) ih = (dlook (kvT T) (.text x)).map fun d => (d, ih) := by
  rw [fIx_obj h, hkeyS]
  rfl
theorem take_ok {m n : Nat} {ih : IH} {T : Tp} {many : Int} (h : TpAt ih n T) (h0 : 0 < many) (h1 : many < 1073741824) : ∃ (r : Int) (T' : Tp), 0 ≤ r ∧ r < many ∧ 0 ≤ T'.at_ ∧ (progs (m + 1)).1 .law_take [.obj n, .int many] ih = some (.int r, ih.set n (.dct (kvT T'))) := by
  have hz : ∀ T : Tp, (kvT T).length < 16777216 := fun T => by
    rw [kvT_len]
    decide
  have A : ∀ (T : Tp) (ih : IH), ih[n]? = some (.dct (kvT T)) → 0 ≤ T.at_ → ∃ (r : Int) (T' : Tp) (ρ' : Env), 0 ≤ r ∧ r < many ∧ 0 ≤ T'.at_ ∧
      (ySeq (yIf (tVal (xBin fGtI (xBin fIx (xVar 0) (xC (.str "left"))) (xC (.int 0)))) (ySeq (ySet 2 (xBin fModI (xArgs fInt (xCons (xBin fIx (xVar 0) (xC (.str "left"))) xNil)) (xVar 1))) (ySeq (yAsg (xBin fDivI (xBin fIx (xVar 0) (xC (.str "left"))) (xVar 1)) (gSb (xVar 0) (xC (.str "left")) wSetD)) (yRet (xVar 2)))) yNext) (ySeq (yAsg (xBin fAdd (xBin fIx (xVar 0) (xC (.str "salt"))) (xC (.int 1))) (gSb (xVar 0) (xC (.str "salt")) wSetD)) (ySeq (ySet 3 (xBin fModI (xArgs fInt (xCons (xBin fAdd (xBin fMulI (xBin fIx (xVar 0) (xC (.str "seed"))) (xC (.int 48271))) (xBin fMulI (xBin fIx (xVar 0) (xC (.str "salt"))) (xC (.int 69621)))) xNil)) (xC (.int 2147483647)))) (ySeq (ySet 3 (xBin fModI (xArgs fInt (xCons (xBin fAdd (xBin fAdd (xBin fMulI (xVar 3) (xVar 3)) (xBin fMulI (xBin fIx (xVar 0) (xC (.str "salt"))) (xC (.int 40692)))) (xC (.int 12345))) xNil)) (xC (.int 2147483399)))) (yRet (xBin fModI (xArgs fInt (xCons (xVar 3) xNil)) (xVar 1)))))))
        [some (.obj n), some (.int many), none, none] ih = some (.rt (.int r), ρ', ih.set n (.dct (kvT T'))) := by
    intro T ih hT hn
    by_cases q : 0 < T.left
    · refine ⟨T.left % many, { T with left := T.left / many }, [some (.obj n), some (.int many), some (.int (T.left % many)), none], Int.emod_nonneg _ (by omega), Int.emod_lt_of_pos _ h0, hn, ?_⟩
      simp [fIx_T hT, q, fModI_of h0, fDivI_of h0 h1, hT, hz, sz]
    · have hT2 := get_set (y := .dct (kvT { T with salt := T.salt + 1 })) hT
      generalize hr : (((T.seed * 48271 + (T.salt + 1) * 69621) % 2147483647 * ((T.seed * 48271 + (T.salt + 1) * 69621) % 2147483647) + (T.salt + 1) * 40692 + 12345) % 2147483399) = r0
      refine ⟨r0 % many, { T with salt := T.salt + 1 }, [some (.obj n), some (.int many), none, some (.int r0)], Int.emod_nonneg _ (by omega), Int.emod_lt_of_pos _ h0, hn, ?_⟩
      simp [fIx_T hT, q, hT, hz, sz, fIx_T hT2, int_48, int_69, int_40, int_mm, mod_seed, mod_salt, fModI_of h0, hr]
  rw [pg, body, r_law_take]
  obtain ⟨cells, at_, left, seed, salt⟩ := T
  have hat := h.at_
  have hnn : 0 ≤ at_ := h.nn
  by_cases q : left = 0 ∧ at_ < (cells.length : Int)
  · obtain ⟨rfl, q2⟩ := q
    obtain ⟨k, rfl⟩ : ∃ k : Nat, at_ = k := ⟨at_.toNat, by omega⟩
    have hkl : k < cells.length := by omega
    have hT1 := get_set (y := .dct (kvT ⟨cells, k, cells[k], seed, salt⟩)) hat
    have hT2 := get_set (y := .dct (kvT ⟨cells, k + 1, cells[k], seed, salt⟩)) hat
    obtain ⟨r, T', ρ', a1, a2, a3, a4⟩ := A ⟨cells, k + 1, cells[k], seed, salt⟩ (ih.set n (.dct (kvT ⟨cells, k + 1, cells[k], seed, salt⟩))) hT2 (by
      show 0 ≤ (k : Int) + 1
      omega)
    refine ⟨r, T', a1, a2, a3, ?_⟩
    rw [List.set_set] at a4
    refine bodyM_rt (ρ := ρ') rfl ?_
    refine (ySeq_nx (ρ1 := [some (.obj n), some (.int many), none, none]) (ih1 := ih.set n (.dct (kvT ⟨cells, k + 1, cells[k], seed, salt⟩))) ?_).trans a4
    simp [fIx_T hat, q2, hkl, hat, hz, sz, fIx_T hT1, hT1, List.set_set]
  · obtain ⟨r, T', ρ', a1, a2, a3, a4⟩ := A ⟨cells, at_, left, seed, salt⟩ ih hat hnn
    refine ⟨r, T', a1, a2, a3, ?_⟩
    refine bodyM_rt (ρ := ρ') rfl ?_
    refine (ySeq_nx (ρ1 := [some (.obj n), some (.int many), none, none]) (ih1 := ih) ?_).trans a4
    by_cases q1 : left = 0
    · have q2 : ¬ at_ < (cells.length : Int) := fun z => q ⟨q1, z⟩
      simp [fIx_T hat, q1, q2]
    · simp [fIx_T hat, q1]
end Gh.K67
end
section
set_option Elab.async false
set_option linter.all false
set_option maxRecDepth 100000
/-! k67: the law's terms and values. -/
namespace Gh.K67
open PySem PySem.Spec PyProof.Rows L2 Tm
/-- a term that the law draws -/
structure Drawn (d s : Nat) (t : Tm) : Prop where
  dep : t.dep ≤ d + 1
  pd : t.pd ≤ d
  occ : ∀ x ∈ occ t, s ≤ x ∧ x < s + 3
theorem r2 {r : Int} (h0 : 0 ≤ r) (h1 : r < 2) : r = 0 ∨ r = 1 := by omega
theorem term_ok {n s : Nat} : ∀ {d m : Nat} {ih : IH} {T : Tp}, TpAt ih n T → d + 2 ≤ m → ∃ t T', Drawn d s t ∧ 0 ≤ T'.at_ ∧ (progs m).1 .law_term [.obj n, .int d, .int s] ih = some (enc t, ih.set n (.dct (kvT T')))
  | d, m, ih, T, h, hm => by
    obtain ⟨m, rfl⟩ : ∃ j, m = j + 2 := ⟨m - 2, by omega⟩
    obtain ⟨k, T1, k0, k1, n1, e1⟩ := take_ok (m := m) (many := 5) h (by decide) (by decide)
    have h1 := h.set n1
    have leaf : (d = 0 ∨ k < 2) → ∃ t T', Drawn d s t ∧ 0 ≤ T'.at_ ∧ (progs (m + 2)).1 .law_term [.obj n, .int d, .int s] ih = some (enc t, ih.set n (.dct (kvT T'))) := fun hl => by
      obtain ⟨a, T2, a0, a1, n2, e2⟩ := take_ok (m := m) (many := 3) h1 (by decide) (by decide)
      have h2 := h1.set n2
      obtain ⟨b, T3, b0, b1, n3, e3⟩ := take_ok (m := m) (many := 2) h2 (by decide) (by decide)
      simp only [List.set_set] at e2 e3
      obtain ⟨a, rfl⟩ : ∃ j : Nat, a = j := ⟨a.toNat, by omega⟩
      have hc : (d : Int) = 0 ∨ k < 2 := by omega
      have hcase : ∀ t, (b = 0 → t = Tm.k .a) → (b = 1 → t = .v (s + a)) → (progs (m + 2)).1 .law_term [.obj n, .int d, .int s] ih = some (enc t, ih.set n (.dct (kvT T3))) := fun t t0 t1 => by
        rw [pg, body, r_law_term, bodyM_ap]
        rcases r2 b0 b1 with rfl | rfl
        · rw [t0 rfl]
          rcases hc with hc | hc
          · simp [e1, hc, e2, e3, sz, enc, Hd.nm]
          · by_cases hd : (d : Int) = 0
            · simp [e1, hc, hd, e2, e3, sz, enc, Hd.nm]
            · simp [e1, hc, hd, e2, e3, sz, enc, Hd.nm]
        · rw [t1 rfl]
          rcases hc with hc | hc
          · simp [e1, hc, e2, e3, sz, enc, Hd.nm]
          · by_cases hd : (d : Int) = 0
            · simp [e1, hc, hd, e2, e3, sz, enc, Hd.nm]
            · simp [e1, hc, hd, e2, e3, sz, enc, Hd.nm]
      rcases r2 b0 b1 with q | q
      · exact ⟨.k .a, T3, ⟨by simp [Tm.dep], by simp [Tm.pd], by simp [Tm.occ]⟩, n3, hcase _ (fun _ => rfl) (fun z => absurd (q.symm.trans z) (by decide))⟩
      · exact ⟨.v (s + a), T3, ⟨by simp [Tm.dep], by simp [Tm.pd], fun x hx => by simp [Tm.occ] at hx; omega⟩, n3, hcase _ (fun z => absurd (q.symm.trans z) (by decide)) (fun _ => rfl)⟩
    by_cases hl : d = 0 ∨ k < 2
    · exact leaf hl
    · obtain ⟨d, rfl⟩ : ∃ j, d = j + 1 := ⟨d - 1, by omega⟩
      have hd0 : ¬ ((d + 1 : Nat) : Int) = 0 := by omega
      have hd1 : (((d + 1 : Nat) : Int) - 1) = (d : Int) := by omega
      have hk2 : ¬ k < 2 := by omega
      obtain ⟨t1, T2, q1, n2, e2⟩ := term_ok (n := n) (s := s) (d := d) (m := m + 1) h1 (by omega)
      have h2 := h1.set n2
      simp only [List.set_set] at e2 h2
      by_cases hk : k = 2
      · subst hk
        refine ⟨.u .g t1, T2, ⟨by have := q1.dep; simp only [Tm.dep]; omega, by have := q1.pd; simp only [Tm.pd]; omega, q1.occ⟩, n2, ?_⟩
        rw [pg, body, r_law_term, bodyM_ap]
        have hd0' : ¬ (d : Int) + 1 = 0 := by omega
        simp [e1, hd0', e2, sz, enc, Hd.nm]
      · obtain ⟨t2, T3, q2, n3, e3⟩ := term_ok (n := n) (s := s) (d := d) (m := m + 1) h2 (by omega)
        simp only [List.set_set] at e3
        refine ⟨.b .f t1 t2, T3, ⟨by have := q1.dep; have := q2.dep; simp only [Tm.dep]; omega, by have := q1.pd; have := q2.pd; simp only [Tm.pd]; omega, fun x hx => ?_⟩, n3, ?_⟩
        · rcases List.mem_append.mp hx with z | z
          · exact q1.occ x z
          · exact q2.occ x z
        · rw [pg, body, r_law_term, bodyM_ap]
          have hd0' : ¬ (d : Int) + 1 = 0 := by omega
          simp [e1, hd0', hk2, hk, e2, e3, sz, enc, Hd.nm]
end Gh.K67
end
section
set_option Elab.async false
set_option linter.all false
set_option maxRecDepth 100000
/-! k67: the law's values, moving, the tape, makes_equal. -/
namespace Gh.K67
open PySem PySem.Spec PyProof.Rows L2 Tm
theorem TpAt.app {ih r : IH} {n : Nat} {T : Tp} (h : TpAt ih n T) : TpAt (ih ++ r) n T := ⟨by
  rw [List.getElem?_append_left (List.getElem?_eq_some_iff.mp h.at_).1]
  exact h.at_, h.nn⟩
theorem TpAt.lt {ih : IH} {n : Nat} {T : Tp} (h : TpAt ih n T) : n < ih.length := (List.getElem?_eq_some_iff.mp h.at_).1
theorem TpAt.setApp {ih r : IH} {n : Nat} {T : Tp} {o : IO} (h : TpAt ih n T) : (ih ++ r).set n o = ih.set n o ++ r := List.set_append_left _ _ h.lt
structure Vals (l : AL) : Prop where
  dep : ∀ x t, (x, t) ∈ l → t.dep ≤ 2
  occ : ∀ x t, (x, t) ∈ l → ∀ y ∈ occ t, y < 20
theorem vals_loop {m n : Nat} {t0 : D} : ∀ (xs : List Nat) (done : AL) (ih : IH) (T : Tp) (x3 : Option D), TpAt ih n T → (done.map (·.1) ++ xs).Nodup → done.length + xs.length ≤ 1000000 → Vals done →
    ∃ l T' y3, 0 ≤ T'.at_ ∧ l.map (·.1) = done.map (·.1) ++ xs ∧ Vals l ∧
      forL (fun _ => true) (gNm 3) (yAsg (xArgs ((progs (m + 3)).1 .law_term) (xCons (xVar 0) (xCons (xC (.int 1)) (xCons (xBin fMulI (xArgs ((progs (m + 3)).1 .law_take) (xCons (xVar 0) (xCons (xC (.int 2)) xNil))) (xC (.int 10))) xNil)))) (gSb (xVar 2) (xVar 3) wSetD)) (intL xs) [some (.obj n), some t0, some (.obj ih.length), x3] (ih ++ [.dct (encA done)]) = some (.nx, [some (.obj n), some t0, some (.obj ih.length), y3], ih.set n (.dct (kvT T')) ++ [.dct (encA l)])
  | [], done, ih, T, x3, h, hn, hz, hv => by
    refine ⟨done, T, x3, h.nn, by simp, hv, ?_⟩
    simp [intL, set_same h.at_]
  | x :: xs, done, ih, T, x3, h, hn, hz, hv => by
    simp only [List.length_cons] at hz
    obtain ⟨r, T1, r0, r1, n1, e1⟩ := take_ok (m := m + 2) (many := 2) (h.app (r := [.dct (encA done)])) (by decide) (by decide)
    rw [h.setApp] at e1
    have h1 := (h.set n1)
    obtain ⟨s, hs, hs2⟩ : ∃ s : Nat, r * 10 = s ∧ s ≤ 10 := ⟨(r * 10).toNat, by omega, by omega⟩
    obtain ⟨t, T2, q2, n2, e2⟩ := term_ok (n := n) (s := s) (d := 1) (m := m + 3) (h1.app (r := [.dct (encA done)])) (by omega)
    rw [h1.setApp, List.set_set] at e2
    have h2 := h.set n2
    have hlk : done.lookup x = none := by
      rw [Option.eq_none_iff_forall_ne_some]
      intro t ht
      rw [List.nodup_append] at hn
      exact hn.2.2 x (List.mem_map.mpr ⟨_, lookup_mem ht, rfl⟩) x (List.mem_cons_self ..) rfl
    have hput := encA_new (t := t) hlk
    have hv2 : Vals (done ++ [(x, t)]) := by
      refine ⟨fun y u hy => ?_, fun y u hy => ?_⟩
      · rcases List.mem_append.mp hy with z | z
        · exact hv.dep y u z
        · simp at z
          rw [z.2]
          exact q2.dep
      · rcases List.mem_append.mp hy with z | z
        · exact hv.occ y u z
        · simp at z
          rw [z.2]
          intro w hw
          have := q2.occ w hw
          omega
    obtain ⟨l, T3, y3, n3, l1, l2, e3⟩ := vals_loop (m := m) (n := n) (t0 := t0) xs (done ++ [(x, t)]) (ih.set n (.dct (kvT T2))) T2 (some (.int x)) h2 (by simpa using hn) (by simp; omega) hv2
    refine ⟨l, T3, y3, n3, by simpa using l1, l2, ?_⟩
    rw [List.set_set] at e3
    simp only [List.length_set] at e3
    have e4 : intL (x :: xs) = .int x :: intL xs := rfl
    have hdl : (encA done).length < 16777216 := by
      rw [encA_len]
      omega
    have hlen : (ih.set n (.dct (kvT T2))).length = ih.length := List.length_set
    have hg : (ih.set n (.dct (kvT T2)) ++ [.dct (encA done)])[ih.length]? = some (.dct (encA done)) := by
      rw [← hlen]
      simp
    have hs3 : (ih.set n (IO.dct (kvT T2)) ++ [IO.dct (encA done)]).set ih.length (IO.dct (encA (done ++ [(x, t)]))) = ih.set n (IO.dct (kvT T2)) ++ [IO.dct (encA (done ++ [(x, t)]))] := by
      rw [← hlen]
      simp
    have e10 : fMulI (.int r) (.int 10) (ih.set n (.dct (kvT T1)) ++ [.dct (encA done)]) = some (.int s, ih.set n (.dct (kvT T1)) ++ [.dct (encA done)]) := by
      rw [int_10, hs]
    rw [← e3, e4, forL_cons]
    simp only [Int.natCast_one, Int.ofNat_one, Int.cast_ofNat_Int] at e2
    simp [e1, e10, e2, hg, sz, hdl, hput, hs3]
theorem values_ok {m n : Nat} {ih : IH} {T : Tp} {t : Tm} (h : TpAt ih n T) (hz : size t ≤ 1000000) : ∃ l T', 0 ≤ T'.at_ ∧ l.map (·.1) = vrs t ∧ Vals l ∧ (progs (m + 4)).1 .law_values [.obj n, enc t] ih = some (.obj ih.length, ih.set n (.dct (kvT T')) ++ [.dct (encA l)]) := by
  have hvl := vrs_len (t := t)
  obtain ⟨l, T', y3, n1, l1, l2, e1⟩ := vals_loop (m := m) (n := n) (t0 := enc t) (vrs t) [] ih T none h (by simpa using nodup_vrs) (by simp; omega) ⟨by simp, by simp⟩
  refine ⟨l, T', n1, by simpa using l1, l2, ?_⟩
  have v1 := fun h => variables_of_ok (m := m + 1) (t := t) (ih := h) hz
  have hi : ∀ l : List Nat, (List.map (fun x : Nat => D.int (x : Int)) l) = intL l := fun l => rfl
  have e0 : encA [] = [] := rfl
  rw [e0] at e1
  rw [pg, body, r_law_values, bodyM_ap]
  simp [v1, hi, e1]
/-- moved by a number -/
def mv (s : Nat) (t : Tm) : Tm := sb (fun x => .v (x + s)) t
theorem moved_ok {s : Nat} : ∀ {t : Tm} {m : Nat} {ih : IH}, t.dep + 1 ≤ m → (progs m).1 .law_moved [enc t, .int s] ih = some (enc (mv s t), ih)
  | .v n, m + 1, ih, h => by
    rw [pg, body, r_law_moved, bodyM_ap]
    simp [enc, mv, sb]
  | .k x, m + 1, ih, h => by
    rw [pg, body, r_law_moved, bodyM_ap]
    simp [enc, mv, sb, sz]
  | .u x t, m + 1, ih, h => by
    simp only [dep] at h
    rw [pg, body, r_law_moved, bodyM_ap]
    have e := moved_ok (s := s) (t := t) (m := m) (ih := ih) (by omega)
    simp only [mv] at e
    simp [enc, mv, sb, sz, e]
  | .b x s' t, m + 1, ih, h => by
    simp only [dep] at h
    rw [pg, body, r_law_moved, bodyM_ap]
    have e := moved_ok (s := s) (t := t) (m := m) (ih := ih) (by omega)
    have e' := moved_ok (s := s) (t := s') (m := m) (ih := ih) (by omega)
    simp only [mv] at e e'
    simp [enc, mv, sb, sz, e, e']
theorem cells_loop {ih : IH} {ρ : Env} (h1 : 1 < ρ.length) : ∀ (ns acc : List Int), acc.length + ns.length ≤ 1000000 → loopC (fun _ => true) (gNm 1) tTrue (emL (xArgs fAbs (xCons (xArgs fInt (xCons (xVar 1) xNil)) xNil))) ρ (ns.map .int) ih (acc.map .int) = some ((acc ++ ns.map fun i => if i < 0 then -i else i).map .int, ih)
  | [], acc, _ => by simp
  | i :: ns, acc, hz => by
    simp only [List.length_cons] at hz
    have g := cells_loop (ih := ih) h1 ns (acc ++ [if i < 0 then -i else i]) (by simp; omega)
    have hlt : acc.length < 16777216 := by omega
    rw [List.map_cons, loopC_cons]
    simp [h1, sz, hlt]
    simpa using g
theorem seed_loop {ih : IH} {d c : D} : ∀ (ns : List Int) (x1 : Option D) (s : Int), ∃ y1 s', forL (fun _ => true) (gNm 1) (ySet 3 (xBin fModI (xArgs fInt (xCons (xBin fAdd (xBin fMulI (xVar 3) (xC (.int 31))) (xVar 1)) xNil)) (xC (.int 2147483647)))) (ns.map .int) [some d, x1, some c, some (.int s)] ih = some (.nx, [some d, y1, some c, some (.int s')], ih)
  | [], x1, s => ⟨x1, s, by simp⟩
  | i :: ns, x1, s => by
    obtain ⟨y1, s', e⟩ := seed_loop (ih := ih) (d := d) (c := c) ns (some (.int i)) ((s * 31 + i) % 2147483647)
    refine ⟨y1, s', ?_⟩
    rw [List.map_cons, forL_cons, ← e]
    simp [int_31, mod_seed]
theorem xDisp_run {xs : List Str} {ms : Env → M (List D)} {ρ : Env} {ih ih1 : IH} {ds : List D} (h : ms ρ ih = some (ds, ih1)) (hn : xs.Nodup) (hl : ds.length = xs.length) : xDisp xs ms ρ ih = some (.obj ih1.length, ih1 ++ [.dct ((xs.map D.str).zip ds)]) := by
  unfold xDisp
  rw [h]
  simp only [Option.bind_some]
  rw [if_pos ⟨hn, hl⟩]
theorem tape_nodup : (["cells", "at", "left", "seed", "salt"] : List Str).Nodup := by decide +kernel
theorem tape_ok {m : Nat} {ih : IH} {ns : List Int} (hz : ns.length ≤ 63) : ∃ T, 0 ≤ T.at_ ∧ (progs (m + 1)).1 .law_tape [.lst (ns.map .int)] ih = some (.obj ih.length, ih ++ [.dct (kvT T)]) := by
  obtain ⟨y1, s', e⟩ := seed_loop (ih := ih) (d := .lst (ns.map .int)) (c := .lst ((ns.map fun i => if i < 0 then -i else i).map .int)) (ns.map fun i => if i < 0 then -i else i) none 7
  have c1 := fun ρ h1 => cells_loop (ih := ih) (ρ := ρ) h1 ns [] (by simp; omega)
  simp only [List.map_nil, List.nil_append] at c1
  refine ⟨⟨ns.map fun i => if i < 0 then -i else i, 0, 0, s', 0⟩, Int.le_refl _, ?_⟩
  generalize (ns.map fun i => if i < 0 then -i else i) = cs at *
  rw [pg, body, r_law_tape, bodyM_ap]
  simp only [List.length_cons, List.length_nil, if_true]
  have t1 := tape_nodup
  simp [c1]
  rw [e]
  simp only [Option.bind_some]
  rw [xDisp_run (ds := [.lst (cs.map .int), .int 0, .int 0, .int s', .int 0]) (ih1 := ih) (by simp) t1 rfl]
  simp [kvT]

theorem eq_loop {m : Nat} {h : IH} {ρ : Env} {l : AL} (hl : Tm.Keyed l) (hr : ρ.length = 5) (h2 : ρ[2]? = some (some (.dct ((encA l).map (·.1)) ((encA l).map (·.2))))) : ∀ (P : PL) (acc : List Bool), (∀ p ∈ P, p.1.dep + 2 ≤ m ∧ p.2.dep + 2 ≤ m ∧ (sb (fn l) p.1).dep ≤ 64 ∧ sb (fn l) p.1 = sb (fn l) p.2) → acc.length + P.length ≤ 1000000 →
    loopC (fun _ => true) (gTp 2 (gsCons (gNm 3) (gsCons (gNm 4) gsNil))) tTrue (emL (xBin fEq (xArgs ((progs m).1 .put_in) (xCons (xVar 3) (xCons (xVar 2) xNil))) (xArgs ((progs m).1 .put_in) (xCons (xVar 4) (xCons (xVar 2) xNil))))) ρ (encP P) h (acc.map .bl) = some ((acc ++ P.map fun _ => true).map .bl, h)
  | [], acc, _, _ => by simp [encP]
  | p :: P, acc, hp, hz => by
    simp only [List.length_cons] at hz
    obtain ⟨d1, d2, d3, d4⟩ := hp p (List.mem_cons_self ..)
    have g := eq_loop (h := h) hl hr h2 P (acc ++ [true]) (fun q hq => hp q (List.mem_cons_of_mem _ hq)) (by simp; omega)
    have e4 : encP (p :: P) = .tup [enc p.1, enc p.2] :: encP P := rfl
    have hg : getKvs (.dct ((encA l).map (·.1)) ((encA l).map (·.2))) h = some (encA l) := by rw [getKvs_dct, Tm.zip_fst_snd]
    have p1 := put_in_al hg (t := p.1) d1
    have p2 := put_in_al hg (t := p.2) d2
    rw [← d4] at p2
    have pe := fEq_enc d3 d3 h
    have s2 : ((ρ.set 3 (some (enc p.1))).set 4 (some (enc p.2)))[2]? = some (some (.dct ((encA l).map (·.1)) ((encA l).map (·.2)))) := by rw [get_set_ne (by omega), get_set_ne (by omega), h2]
    have s3 : ((ρ.set 3 (some (enc p.1))).set 4 (some (enc p.2)))[3]? = some (some (enc p.1)) := by
      rw [get_set_ne (by omega)]
      have : 3 < ρ.length := by omega
      simp [this]
    have s4 : ((ρ.set 3 (some (enc p.1))).set 4 (some (enc p.2)))[4]? = some (some (enc p.2)) := by
      have : 4 < ρ.length := by omega
      simp [this]
    have hlt : acc.length < 16777216 := by omega
    rw [e4, loopC_cons]
    simp [s2, s3, s4, p1, p2, pe, sz, hlt]
    simpa using g
theorem makes_equal_ok {m : Nat} {ih : IH} {P : PL} {l : AL} (hl : Tm.Keyed l) (hp : ∀ p ∈ P, p.1.dep + 2 ≤ m ∧ p.2.dep + 2 ≤ m ∧ (sb (fn l) p.1).dep ≤ 64 ∧ sb (fn l) p.1 = sb (fn l) p.2) (hz : P.length ≤ 1000000) : (progs (m + 1)).1 .makes_equal [.lst (encP P), .tupx (prD l)] ih = some (.bl true, ih) := by
  rw [pg, body, r_makes_equal]
  refine pureM_of (r := []) ?_ rfl
  rw [bodyM_ap]
  have e1 := eq_loop (m := m) (h := ih) (ρ := [some (.lst (encP P)), some (.tupx (prD l)), some (.dct ((encA l).map (·.1)) ((encA l).map (·.2))), none, none]) hl rfl rfl P [] hp (by simpa using hz)
  simp only [List.map_nil, List.nil_append] at e1
  have ab : ∀ bs : List Bool, asBools (bs.map .bl) = some bs := by
    intro bs
    induction bs with
    | nil => rfl
    | cons b bs ih =>
      rw [List.map_cons, asBools_cons, ih]
      rfl
  generalize hB : (P.map fun _ => true) = B at e1
  have hBt : B.all id = true := by
    rw [← hB]
    simp
  simp [dictX_prD hl, e1, ab]
  simpa using hBt
end Gh.K67
end
section
set_option Elab.async false
set_option linter.all false
set_option maxRecDepth 100000
/-! k67: how deep the values are; what unifying means for the law. -/
namespace Gh.K67
open PySem PySem.Spec PyProof.Rows L2 Tm
theorem size_pd : ∀ t : Tm, size t + 1 ≤ 2 ^ (pd t + 1)
  | .v _ => by simp [size, pd]
  | .k _ => by simp [size, pd]
  | .u _ t => by
    have := size_pd t
    simp only [size, pd]
    rw [Nat.pow_succ]
    omega
  | .b _ s t => by
    have h1 := size_pd s
    have h2 := size_pd t
    simp only [size, pd]
    rw [Nat.pow_succ]
    have a1 : 2 ^ (pd s + 1) ≤ 2 ^ (max (pd s) (pd t) + 1) := Nat.pow_le_pow_right (by omega) (by omega)
    have a2 : 2 ^ (pd t + 1) ≤ 2 ^ (max (pd s) (pd t) + 1) := Nat.pow_le_pow_right (by omega) (by omega)
    omega
theorem size_pd2 {t : Tm} (h : t.pd ≤ 2) : size t ≤ 7 := by
  have h1 := size_pd t
  have h2 : 2 ^ (pd t + 1) ≤ 2 ^ 3 := Nat.pow_le_pow_right (by omega) (by omega)
  omega
def pdS (t : Tm) : Nat := ((subs t).map pd).sum
theorem pdS_u {c : Hd} {t : Tm} : pdS (.u c t) = pd t + 1 + pdS t := by simp [pdS, subs, pd]
theorem pdS_b {c : Hd} {s t : Tm} : pdS (.b c s t) = max (pd s) (pd t) + 1 + (pdS s + pdS t) := by simp [pdS, subs, pd]
theorem pdS_0 : ∀ {t : Tm}, t.pd ≤ 0 → pdS t = 0
  | .v _, _ => by simp [pdS, subs, pd]
  | .k _, _ => by simp [pdS, subs, pd]
  | .u _ t, h => by simp [pd] at h
  | .b _ s t, h => by simp [pd] at h
theorem pdS_1 : ∀ {t : Tm}, t.pd ≤ 1 → pdS t ≤ 1
  | .v _, _ => by simp [pdS, subs, pd]
  | .k _, _ => by simp [pdS, subs, pd]
  | .u _ t, h => by
    simp only [pd] at h
    rw [pdS_u, pdS_0 (t := t) (by omega)]
    omega
  | .b _ s t, h => by
    simp only [pd] at h
    rw [pdS_b, pdS_0 (t := t) (by omega), pdS_0 (t := s) (by omega)]
    omega
theorem pdS_2 : ∀ {t : Tm}, t.pd ≤ 2 → pdS t ≤ 4
  | .v _, _ => by simp [pdS, subs, pd]
  | .k _, _ => by simp [pdS, subs, pd]
  | .u _ t, h => by
    simp only [pd] at h
    have := pdS_1 (t := t) (by omega)
    rw [pdS_u]
    omega
  | .b _ s t, h => by
    simp only [pd] at h
    have := pdS_1 (t := t) (by omega)
    have := pdS_1 (t := s) (by omega)
    rw [pdS_b]
    omega
/-- the parts below the top -/
def below (t : Tm) : List Tm := (args t).flatMap subs
theorem subs_below {s t : Tm} (h : t ∈ subs s) : t = s ∨ t ∈ below s := by
  cases s with
  | v n => simp [subs] at h; exact .inl h
  | k c => simp [subs] at h; exact .inl h
  | u c s =>
    rw [subs] at h
    rcases List.mem_cons.mp h with h | h
    · exact .inl h
    · exact .inr (by simpa [below, args] using h)
  | b c s s' =>
    rw [subs] at h
    rcases List.mem_cons.mp h with h | h
    · exact .inl h
    · exact .inr (by simpa [below, args] using h)
theorem below_pd : ∀ {t : Tm}, t.pd ≤ 2 → ((below t).map pd).sum ≤ 2
  | .v _, _ => by simp [below, args]
  | .k _, _ => by simp [below, args]
  | .u _ t, h => by
    simp only [pd] at h
    have := pdS_1 (t := t) (by omega)
    simpa [below, args, pdS] using Nat.le_trans this (by omega)
  | .b _ s t, h => by
    simp only [pd] at h
    have h1 := pdS_1 (t := t) (by omega)
    have h2 := pdS_1 (t := s) (by omega)
    have : pdS s + pdS t ≤ 2 := by omega
    simpa [below, args, pdS] using this
theorem va_bound {s t : Tm} {S : List Stp} (hs : s.pd ≤ 2) (ht : t.pd ≤ 2) (h : Clos [(s, t)] S) (a : Acy S) (x : Nat) : (va S x).dep ≤ 5 := by
  have hu : uni [(s, t)] = subs s ++ subs t := by simp [uni]
  have g := h.good
  have inU : ∀ x r, (Tm.v x, r) ∈ prs S → Tm.v x ∈ subs s ++ subs t ∧ r ∈ subs s ++ subs t := fun x r hr => by
    obtain ⟨y, hy, e⟩ := List.mem_map.mp hr
    simp only [Prod.mk.injEq] at e
    have := g.inU y hy
    rw [hu] at this
    rw [← e.1, ← e.2]
    exact this
  by_cases v1 : isV s = true
  · have hp : pdS s = 0 := by
      cases s <;> simp [isV] at v1
      simp [pdS, subs, pd]
    have := va_dep' h.clo a (C := subs s ++ subs t) (fun x r hr _ => (inU x r hr).2) x
    have h4 := pdS_2 ht
    rw [List.map_append, List.sum_append] at this
    unfold pdS at hp h4
    omega
  · by_cases v2 : isV t = true
    · have hp : pdS t = 0 := by
        cases t <;> simp [isV] at v2
        simp [pdS, subs, pd]
      have := va_dep' h.clo a (C := subs s ++ subs t) (fun x r hr _ => (inU x r hr).2) x
      have h4 := pdS_2 hs
      rw [List.map_append, List.sum_append] at this
      unfold pdS at hp h4
      omega
    · have n1 : isV s = false := by simpa using v1
      have n2 : isV t = false := by simpa using v2
      have hst : Rl S s t := h.given (s, t) (by simp)
      have nos : ∀ x, (Tm.v x, s) ∈ prs S → False := fun x hx => by
        have hxt : Rl S (.v x) t := Rl.trans h.clo (.inl hx) hst
        rcases List.mem_append.mp (inU x s hx).1 with q | q
        · exact a x (.one ⟨s, hx, n1, subs_v q⟩)
        · rcases hxt with z | z
          · exact a x (.one ⟨t, z, n2, subs_v q⟩)
          · rw [← z] at n2
            simp [isV] at n2
      have not : ∀ x, (Tm.v x, t) ∈ prs S → False := fun x hx => by
        have hxs : Rl S (.v x) s := Rl.trans h.clo (.inl hx) (hst.symm h.clo)
        rcases hxs with z | z
        · exact nos x z
        · rw [← z] at n1
          simp [isV] at n1
      have := va_dep' h.clo a (C := below s ++ below t) (fun x r hr _ => by
        rcases List.mem_append.mp (inU x r hr).2 with q | q
        · rcases subs_below q with rfl | q
          · exact (nos x hr).elim
          · exact List.mem_append_left _ q
        · rcases subs_below q with rfl | q
          · exact (not x hr).elim
          · exact List.mem_append_right _ q) x
      have b1 := below_pd hs
      have b2 := below_pd ht
      rw [List.map_append, List.sum_append] at this
      omega
theorem pd_mv {s : Nat} : ∀ {t : Tm}, pd (mv s t) = pd t
  | .v _ => rfl
  | .k _ => rfl
  | .u _ t => by
    have := pd_mv (s := s) (t := t)
    simp only [mv] at this
    simp [mv, sb, pd, this]
  | .b _ p t => by
    have h1 := pd_mv (s := s) (t := t)
    have h2 := pd_mv (s := s) (t := p)
    simp only [mv] at h1 h2
    simp [mv, sb, pd, h1, h2]
theorem dep_mv {s : Nat} : ∀ {t : Tm}, (mv s t).dep = t.dep
  | .v _ => rfl
  | .k _ => rfl
  | .u _ t => by
    have := dep_mv (s := s) (t := t)
    simp only [mv] at this
    simp [mv, sb, dep, this]
  | .b _ p t => by
    have h1 := dep_mv (s := s) (t := t)
    have h2 := dep_mv (s := s) (t := p)
    simp only [mv] at h1 h2
    simp [mv, sb, dep, h1, h2]
/-! what holds of most general values -/
structure Mgu (P : PL) (σ : Nat → Tm) : Prop where
  uni : Uni P σ
  gen : ∀ θ, Uni P θ → ∀ x, sb θ (σ x) = θ x
theorem Mgu.idem {P : PL} {σ : Nat → Tm} (h : Mgu P σ) (t : Tm) : sb σ (sb σ t) = sb σ t := by
  rw [sb_sb]
  exact sb_congr fun x _ => h.gen σ h.uni x
theorem Mgu.again {s t : Tm} {σ : Nat → Tm} (h : Mgu [(s, t)] σ) : Uni [(s, t), (s, sb σ s)] σ := by
  intro p hp
  simp at hp
  rcases hp with rfl | rfl
  · exact h.uni _ (by simp)
  · exact (h.idem s).symm
theorem Mgu.variant {s t : Tm} {σ τ : Nat → Tm} (h : Mgu [(s, t)] σ) (h2 : Mgu [(s, t), (s, sb σ s)] τ) : tidy (sb τ s) = tidy (sb σ s) := by
  refine tidy_eq_iff.mpr ⟨⟨σ, ?_⟩, ⟨τ, ?_⟩⟩
  · rw [sb_sb]
    exact sb_congr fun x _ => h2.gen σ h.again x
  · exact (h2.uni (s, sb σ s) (by simp)).symm
theorem mv_sb {s : Nat} {σ : Nat → Tm} (t : Tm) : sb σ (mv s t) = sb (fun x => σ (x + s)) t := by
  rw [mv, sb_sb]
  rfl
theorem not_le_of {one two : Tm} {ρ : Nat → Tm} (h1 : ∀ x ∈ occ one, x < 20) (h : ¬ ∃ θ, Uni [(one, mv 20 two)] θ) : ¬ Le two (sb ρ one) := by
  rintro ⟨τ, e⟩
  refine h ⟨fun x => if x < 20 then ρ x else τ (x - 20), fun p hp => ?_⟩
  simp at hp
  subst hp
  simp only
  rw [mv_sb]
  have e1 : sb (fun x => if x < 20 then ρ x else τ (x - 20)) one = sb ρ one := sb_congr fun x hx => by rw [if_pos (h1 x hx)]
  have e2 : sb (fun x => if x + 20 < 20 then ρ (x + 20) else τ (x + 20 - 20)) two = sb τ two := sb_congr fun x _ => by
    rw [if_neg (by omega)]
    congr 1
  rw [e1, e2, e]
theorem uni_swap {s t : Tm} : (∃ θ, Uni [(s, t)] θ) ↔ ∃ θ, Uni [(t, s)] θ := by
  constructor
  · rintro ⟨θ, h⟩
    exact ⟨θ, fun p hp => by simp at hp; subst hp; exact (h (s, t) (by simp)).symm⟩
  · rintro ⟨θ, h⟩
    exact ⟨θ, fun p hp => by simp at hp; subst hp; exact (h (t, s) (by simp)).symm⟩
end Gh.K67
end
section
set_option Elab.async false
set_option linter.all false
set_option maxRecDepth 100000
/-! k67: the law's turn, statement by statement. Printed by k67law.py. -/
namespace Gh.K67
open PySem PySem.Spec PyProof.Rows L2 Tm
noncomputable def tS1 (c : Fn → Run) : MS := yPar3 3 4 5 (xCons (xArgs (c .law_term) (xCons (xVar 1) (xCons (xC (.int 2)) (xCons (xC (.int 0)) xNil)))) (xCons (xArgs (c .law_term) (xCons (xVar 1) (xCons (xC (.int 2)) (xCons (xC (.int 0)) xNil)))) (xCons (xArgs (c .law_term) (xCons (xVar 1) (xCons (xC (.int 2)) (xCons (xC (.int 0)) xNil)))) xNil)))
noncomputable def tS2 (c : Fn → Run) : MS := yAsg (xArgs (c .generalized) (xCons (xVar 3) (xCons (xVar 4) xNil))) (gTp 3 (gsCons (gNm 6) (gsCons (gNm 7) (gsCons (gNm 8) gsNil))))
noncomputable def tS3 (c : Fn → Run) : MS := yIf (tOr2 (tVal (xBin fNe (xArgs (c .put_in) (xCons (xVar 6) (xCons (xArgs fDictX (xCons (xVar 7) xNil)) xNil))) (xVar 3))) (tOr2 (tVal (xBin fNe (xArgs (c .put_in) (xCons (xVar 6) (xCons (xArgs fDictX (xCons (xVar 8) xNil)) xNil))) (xVar 4))) (tAnd2 (tVal (xBin fNe (xBin fIx (xArgs (c .generalized) (xCons (xVar 4) (xCons (xVar 3) xNil))) (xC (.int 0))) (xVar 6))) (tNot2 (tVal (xArgs (c .is_variant) (xCons (xBin fIx (xArgs (c .generalized) (xCons (xVar 4) (xCons (xVar 3) xNil))) (xC (.int 0))) (xCons (xVar 6) xNil)))))))) (yRet (xC (.bl false))) yNext
noncomputable def tS4 (c : Fn → Run) : MS := yIf (tOr2 (tVal (xBin fIsN (xArgs (c .match_) (xCons (xVar 6) (xCons (xVar 3) xNil))) (xC .non))) (tOr2 (tVal (xBin fIsN (xArgs (c .match_) (xCons (xVar 6) (xCons (xVar 4) xNil))) (xC .non))) (tVal (xBin fGtI (xArgs (c .term_size) (xCons (xVar 6) xNil)) (xArgs fMin2 (xCons (xArgs (c .term_size) (xCons (xVar 3) xNil)) (xCons (xArgs (c .term_size) (xCons (xVar 4) xNil)) xNil))))))) (yRet (xC (.bl false))) yNext
noncomputable def tS5 (c : Fn → Run) : MS := ySet 9 (xBin fIx (xArgs (c .generalized) (xCons (xBin fIx (xArgs (c .generalized) (xCons (xVar 3) (xCons (xVar 4) xNil))) (xC (.int 0))) (xCons (xVar 5) xNil))) (xC (.int 0)))
noncomputable def tS6 (c : Fn → Run) : MS := ySet 10 (xBin fIx (xArgs (c .generalized) (xCons (xVar 3) (xCons (xBin fIx (xArgs (c .generalized) (xCons (xVar 4) (xCons (xVar 5) xNil))) (xC (.int 0))) xNil))) (xC (.int 0)))
noncomputable def tS7 (c : Fn → Run) : MS := yIf (tOr2 (tNot2 (tVal (xArgs (c .is_variant) (xCons (xVar 9) (xCons (xVar 10) xNil))))) (tOr2 (tNot2 (tVal (xArgs (c .is_variant) (xCons (xBin fIx (xArgs (c .generalized) (xCons (xVar 3) (xCons (xVar 3) xNil))) (xC (.int 0))) (xCons (xVar 3) xNil))))) (tNot2 (tVal (xArgs (c .is_variant) (xCons (xArgs (c .tidy_term) (xCons (xVar 3) xNil)) (xCons (xVar 3) xNil))))))) (yRet (xC (.bl false))) yNext
noncomputable def tS8 (c : Fn → Run) : MS := ySet 11 (xArgs (c .law_values) (xCons (xVar 1) (xCons (xVar 3) xNil)))
noncomputable def tS9 (c : Fn → Run) : MS := ySet 12 (xArgs (c .put_in) (xCons (xVar 3) (xCons (xVar 11) xNil)))
noncomputable def tS10 (c : Fn → Run) : MS := yIf (tOr2 (tVal (xBin fIsN (xArgs (c .match_) (xCons (xVar 3) (xCons (xVar 12) xNil))) (xC .non))) (tOr2 (tNot2 (tVal (xArgs (c .is_variant) (xCons (xBin fIx (xArgs (c .generalized) (xCons (xVar 3) (xCons (xVar 12) xNil))) (xC (.int 0))) (xCons (xVar 3) xNil))))) (tVal (xBin fNe (xBin fNotN (xArgs (c .match_) (xCons (xVar 12) (xCons (xVar 3) xNil))) (xC .non)) (xArgs (c .is_variant) (xCons (xVar 3) (xCons (xVar 12) xNil))))))) (yRet (xC (.bl false))) yNext
noncomputable def tS11 (c : Fn → Run) : MS := yIf (tOr2 (tVal (xBin fNe (xArgs (c .is_variant) (xCons (xVar 3) (xCons (xVar 4) xNil))) (xAndV (xBin fNotN (xArgs (c .match_) (xCons (xVar 3) (xCons (xVar 4) xNil))) (xC .non)) (xBin fNotN (xArgs (c .match_) (xCons (xVar 4) (xCons (xVar 3) xNil))) (xC .non))))) (tVal (xBin fNe (xBin fEq (xArgs (c .tidy_term) (xCons (xVar 3) xNil)) (xArgs (c .tidy_term) (xCons (xVar 4) xNil))) (xArgs (c .is_variant) (xCons (xVar 3) (xCons (xVar 4) xNil)))))) (yRet (xC (.bl false))) yNext
noncomputable def tS12 (c : Fn → Run) : MS := ySet 13 (xArgs (c .law_moved) (xCons (xVar 4) (xCons (xC (.int 20)) xNil)))
noncomputable def tS13 (c : Fn → Run) : MS := ySet 14 (xArgs (c .unify) (xCons (xArgs fLst (xCons (xArgs fTup (xCons (xVar 3) (xCons (xVar 13) xNil))) xNil)) xNil))
noncomputable def tS14 (c : Fn → Run) : MS := yIf (tVal (xBin fEq (xBin fIx (xVar 14) (xC (.int 0))) (xC (.str "unified")))) (ySeq (ySet 15 (xArgs (c .put_in) (xCons (xVar 3) (xCons (xArgs fDictX (xCons (xBin fIx (xVar 14) (xC (.int 1))) xNil)) xNil)))) (ySeq (yIf (tOr2 (tVal (xBin fNe (xArgs (c .put_in) (xCons (xVar 13) (xCons (xArgs fDictX (xCons (xBin fIx (xVar 14) (xC (.int 1))) xNil)) xNil))) (xVar 15))) (tOr2 (tVal (xBin fIsN (xArgs (c .match_) (xCons (xVar 3) (xCons (xVar 15) xNil))) (xC .non))) (tOr2 (tVal (xBin fIsN (xArgs (c .match_) (xCons (xVar 4) (xCons (xVar 15) xNil))) (xC .non))) (tVal (xBin fNotB (xArgs (c .makes_equal) (xCons (xArgs fLst (xCons (xArgs fTup (xCons (xVar 3) (xCons (xVar 13) xNil))) xNil)) (xCons (xBin fIx (xVar 14) (xC (.int 1))) xNil))) (xC (.bl true))))))) (yRet (xC (.bl false))) yNext) (ySeq (ySet 16 (xArgs (c .unify) (xCons (xArgs fLst (xCons (xArgs fTup (xCons (xVar 3) (xCons (xVar 13) xNil))) (xCons (xArgs fTup (xCons (xVar 3) (xCons (xVar 15) xNil))) xNil))) xNil))) (yIf (tOr2 (tVal (xBin fNe (xBin fIx (xVar 16) (xC (.int 0))) (xC (.str "unified")))) (tNot2 (tVal (xArgs (c .is_variant) (xCons (xArgs (c .put_in) (xCons (xVar 3) (xCons (xArgs fDictX (xCons (xBin fIx (xVar 16) (xC (.int 1))) xNil)) xNil))) (xCons (xVar 15) xNil)))))) (yRet (xC (.bl false))) yNext)))) (ySeq (ySet 17 (xArgs (c .put_in) (xCons (xVar 3) (xCons (xVar 11) xNil)))) (yIf (tVal (xBin fNotN (xArgs (c .match_) (xCons (xVar 4) (xCons (xVar 17) xNil))) (xC .non))) (yRet (xC (.bl false))) yNext))
noncomputable def tS15 (c : Fn → Run) : MS := ySet 18 (xArgs (c .law_values) (xCons (xVar 1) (xCons (xVar 12) xNil)))
noncomputable def tS16 (c : Fn → Run) : MS := ySet 19 xDnewH
noncomputable def tS17 (c : Fn → Run) : MS := yLk 11 (yFor (xSrc srcAny (xVar 11)) (gNm 20) (yAsg (xArgs (c .put_in) (xCons (xBin fIx (xVar 11) (xVar 20)) (xCons (xVar 18) xNil))) (gSb (xVar 19) (xVar 20) wSetD)))
noncomputable def tS18 (c : Fn → Run) : MS := yIf (tAnd2 (tVal (xBin fNe (xArgs (c .put_in) (xCons (xVar 12) (xCons (xVar 18) xNil))) (xArgs (c .put_in) (xCons (xVar 3) (xCons (xVar 19) xNil))))) (tVal (xArgs fAll (xCons (xCompL (xSrc srcAny (xArgs (c .variables_of) (xCons (xVar 3) xNil))) [20] (gNm 20) tTrue (emL (xBin fInD (xVar 20) (xVar 19)))) xNil)))) (yRet (xC (.bl false))) yNext
noncomputable def tS19 (c : Fn → Run) : MS := ySet 21 (xArgs (c .unify) (xCons (xArgs fLst (xCons (xArgs fTup (xCons (xVar 13) (xCons (xVar 3) xNil))) xNil)) xNil))
noncomputable def tS20 (c : Fn → Run) : MS := yIf (tAnd2 (tVal (xBin fNe (xBin fIx (xVar 21) (xC (.int 0))) (xBin fIx (xVar 14) (xC (.int 0))))) (tOr2 (tVal (xBin fEq (xBin fIx (xVar 21) (xC (.int 0))) (xC (.str "unified")))) (tVal (xBin fEq (xBin fIx (xVar 14) (xC (.int 0))) (xC (.str "unified")))))) (yRet (xC (.bl false))) yNext
noncomputable def turnB (c : Fn → Run) : MS := ySeq (tS1 c) (ySeq (tS2 c) (ySeq (tS3 c) (ySeq (tS4 c) (ySeq (tS5 c) (ySeq (tS6 c) (ySeq (tS7 c) (ySeq (tS8 c) (ySeq (tS9 c) (ySeq (tS10 c) (ySeq (tS11 c) (ySeq (tS12 c) (ySeq (tS13 c) (ySeq (tS14 c) (ySeq (tS15 c) (ySeq (tS16 c) (ySeq (tS17 c) (ySeq (tS18 c) (ySeq (tS19 c) (tS20 c)))))))))))))))))))
theorem law_eq (c c1 : Fn → Run) : r_law c c1 = bodyM 1 22 (ySeq (ySet 1 (xArgs (c .law_tape) (xCons (xVar 0) xNil))) (ySeq (yFor (xSrcN srcR1 (xCons (xC (.int 3)) xNil)) (gNm 2) (turnB c)) (yRet (xC (.bl true))))) := rfl
end Gh.K67
end
section
set_option Elab.async false
set_option linter.all false
set_option maxRecDepth 100000
/-! k67: what each statement of the turn does. Printed by k67turn.py. -/
namespace Gh.K67
open PySem PySem.Spec PyProof.Rows L2 Tm
section
variable {d0 : D} {n : Nat} {x2 x3 x4 x5 x6 x7 x8 x9 x10 x11 x12 x13 x14 x15 x16 x17 x18 x19 x20 x21 : Option D} {ih : IH} {one two three : Tm}
theorem Drawn.sz {d s : Nat} {t : Tm} (h : Drawn d s t) (hd : d ≤ 2) : size t ≤ 7 := size_pd2 (Nat.le_trans h.pd hd)
theorem lgg_dep {s t : Tm} : (lgg s t).dep ≤ s.dep := (lgg_le1 s t).dep
theorem lgg_dep2 {s t : Tm} : (lgg s t).dep ≤ t.dep := (lgg_le2 s t).dep
theorem lgg_size {s t : Tm} : size (lgg s t) ≤ size s := (lgg_le1 s t).size
theorem lgg_size2 {s t : Tm} : size (lgg s t) ≤ size t := (lgg_le2 s t).size
theorem lgn_nodup (s t : Tm) : (lgn s t).Nodup := jt_nodup List.nodup_nil
theorem side1_kv (s t : Tm) {h : IH} : ∃ d, fDictX [.tupx (prD (srt (side (·.1) (lgn s t))))] h = some (d, h) ∧ getKvs d h = some (encA (srt (side (·.1) (lgn s t)))) := ⟨_, dictX_prD (srt_keyed (side_keyed (lgn_nodup s t))), by rw [getKvs_dct, Tm.zip_fst_snd]⟩
theorem side2_kv (s t : Tm) {h : IH} : ∃ d, fDictX [.tupx (prD (srt (side (·.2) (lgn s t))))] h = some (d, h) ∧ getKvs d h = some (encA (srt (side (·.2) (lgn s t)))) := ⟨_, dictX_prD (srt_keyed (side_keyed (lgn_nodup s t))), by rw [getKvs_dct, Tm.zip_fst_snd]⟩
theorem fGtI_ap {i j : Int} {ih : IH} : fGtI (.int i) (.int j) ih = some (.bl (decide (j < i)), ih) := rfl
@[simp] theorem fMin2_ap {i j : Int} {ih : IH} : fMin2 [.int i, .int j] ih = some (.int (if j < i then j else i), ih) := rfl
theorem S1_ok {T : Tp} (h : TpAt ih n T) : ∃ one two three T', Drawn 2 0 one ∧ Drawn 2 0 two ∧ Drawn 2 0 three ∧ 0 ≤ T'.at_ ∧ tS1 (progs 149).1 [some d0, some (.obj n), x2, x3, x4, x5, x6, x7, x8, x9, x10, x11, x12, x13, x14, x15, x16, x17, x18, x19, x20, x21] ih = some (.nx, [some d0, some (.obj n), x2, some (enc one), some (enc two), some (enc three), x6, x7, x8, x9, x10, x11, x12, x13, x14, x15, x16, x17, x18, x19, x20, x21], ih.set n (.dct (kvT T'))) := by
  obtain ⟨one, T1, q1, n1, e1⟩ := term_ok (n := n) (s := 0) (d := 2) (m := 149) h (by decide)
  have a1 := h.set n1
  obtain ⟨two, T2, q2, n2, e2⟩ := term_ok (n := n) (s := 0) (d := 2) (m := 149) a1 (by decide)
  have a2 := a1.set n2
  obtain ⟨three, T3, q3, n3, e3⟩ := term_ok (n := n) (s := 0) (d := 2) (m := 149) a2 (by decide)
  simp only [List.set_set] at e2 e3
  simp only [Int.natCast_zero, Int.ofNat_zero, Int.cast_ofNat_Int] at e1 e2 e3
  refine ⟨one, two, three, T3, q1, q2, q3, n3, ?_⟩
  unfold tS1
  simp [yPar3, e1, e2, e3]
theorem S2_ok (h1 : Drawn 2 0 one) (h2 : Drawn 2 0 two) (h3 : Drawn 2 0 three) :  tS2 (progs 149).1 [some d0, some (.obj n), x2, some (enc one), some (enc two), some (enc three), x6, x7, x8, x9, x10, x11, x12, x13, x14, x15, x16, x17, x18, x19, x20, x21] ih = some (.nx, [some d0, some (.obj n), x2, some (enc one), some (enc two), some (enc three), some (enc (lgg one two)), some (.tupx (prD (srt (side (·.1) (lgn one two))))), some (.tupx (prD (srt (side (·.2) (lgn one two))))), x9, x10, x11, x12, x13, x14, x15, x16, x17, x18, x19, x20, x21], ih)  := by
  have d1 := h1.dep
  have d2 := h2.dep
  have d3 := h3.dep
  have z1 := h1.sz (Nat.le_refl _)
  have z2 := h2.sz (Nat.le_refl _)
  have z3 := h3.sz (Nat.le_refl _)
  have g := generalized_ok (m := 149) (s := one) (t := two) (ih := ih) (by omega) (by omega) (by omega) (by omega)
  unfold tS2
  simp [g]
theorem S3_ok (h1 : Drawn 2 0 one) (h2 : Drawn 2 0 two) (h3 : Drawn 2 0 three) :  tS3 (progs 149).1 [some d0, some (.obj n), x2, some (enc one), some (enc two), some (enc three), some (enc (lgg one two)), some (.tupx (prD (srt (side (·.1) (lgn one two))))), some (.tupx (prD (srt (side (·.2) (lgn one two))))), x9, x10, x11, x12, x13, x14, x15, x16, x17, x18, x19, x20, x21] ih = some (.nx, [some d0, some (.obj n), x2, some (enc one), some (enc two), some (enc three), some (enc (lgg one two)), some (.tupx (prD (srt (side (·.1) (lgn one two))))), some (.tupx (prD (srt (side (·.2) (lgn one two))))), x9, x10, x11, x12, x13, x14, x15, x16, x17, x18, x19, x20, x21], ih)  := by
  have d1 := h1.dep
  have d2 := h2.dep
  have d3 := h3.dep
  have z1 := h1.sz (Nat.le_refl _)
  have z2 := h2.sz (Nat.le_refl _)
  have z3 := h3.sz (Nat.le_refl _)
  have g := generalized_ok (m := 149) (s := two) (t := one) (ih := ih) (by omega) (by omega) (by omega) (by omega)
  have c1 := lgg_dep (s := one) (t := two)
  have c2 := lgg_dep2 (s := one) (t := two)
  have c3 := lgg_dep (s := two) (t := one)
  have k1 := lgg_size (s := one) (t := two)
  have k3 := lgg_size (s := two) (t := one)
  obtain ⟨v1, f1, f2⟩ := side1_kv one two (h := ih)
  obtain ⟨v2, f3, f4⟩ := side2_kv one two (h := ih)
  have p1 := put_in_al f2 (t := lgg one two) (m := 149) (by omega)
  have p2 := put_in_al f4 (t := lgg one two) (m := 149) (by omega)
  rw [fn_side1 (lgn_nodup one two), lgg_left] at p1
  rw [fn_side2 (lgn_nodup one two), lgg_right] at p2
  have e1 := fNe_enc (s := one) (t := one) (by omega) (by omega) ih
  have e2 := fNe_enc (s := two) (t := two) (by omega) (by omega) ih
  have e3 := fNe_enc (s := lgg two one) (t := lgg one two) (by omega) (by omega) ih
  have w := is_variant_ok (m := 149) (s := lgg two one) (t := lgg one two) (ih := ih) (by omega) (by omega) (by omega) (by omega) (by omega) (by omega)
  rw [lgg_comm two one] at w
  unfold tS3
  by_cases q : lgg two one = lgg one two
  · rw [q] at e3 w g
    simp [-fDictX_ap, f1, p1, f3, p2, g, e1, e2, e3, w]
  · simp [-fDictX_ap, f1, p1, f3, p2, g, e1, e2, e3, w, q]
theorem S4_ok (h1 : Drawn 2 0 one) (h2 : Drawn 2 0 two) (h3 : Drawn 2 0 three) :  tS4 (progs 149).1 [some d0, some (.obj n), x2, some (enc one), some (enc two), some (enc three), some (enc (lgg one two)), some (.tupx (prD (srt (side (·.1) (lgn one two))))), some (.tupx (prD (srt (side (·.2) (lgn one two))))), x9, x10, x11, x12, x13, x14, x15, x16, x17, x18, x19, x20, x21] ih = some (.nx, [some d0, some (.obj n), x2, some (enc one), some (enc two), some (enc three), some (enc (lgg one two)), some (.tupx (prD (srt (side (·.1) (lgn one two))))), some (.tupx (prD (srt (side (·.2) (lgn one two))))), x9, x10, x11, x12, x13, x14, x15, x16, x17, x18, x19, x20, x21], ih)  := by
  have d1 := h1.dep
  have d2 := h2.dep
  have d3 := h3.dep
  have z1 := h1.sz (Nat.le_refl _)
  have z2 := h2.sz (Nat.le_refl _)
  have z3 := h3.sz (Nat.le_refl _)
  have c1 := lgg_dep (s := one) (t := two)
  have c2 := lgg_dep2 (s := one) (t := two)
  have k1 := lgg_size (s := one) (t := two)
  have k2 := lgg_size2 (s := one) (t := two)
  have m1 := match_ok (m := 149) (p := lgg one two) (t := one) (ih := ih) (by omega) (by omega) (by omega)
  have m2 := match_ok (m := 149) (p := lgg one two) (t := two) (ih := ih) (by omega) (by omega) (by omega)
  have i1 : isNon (mtD (lgg one two) one) = false := by simp [match_non, lgg_le1]
  have i2 : isNon (mtD (lgg one two) two) = false := by simp [match_non, lgg_le2]
  have s0 := term_size_ok (m := 149) (t := lgg one two) (ih := ih) (by omega)
  have s1 := term_size_ok (m := 149) (t := one) (ih := ih) (by omega)
  have s2 := term_size_ok (m := 149) (t := two) (ih := ih) (by omega)
  unfold tS4
  simp [m1, m2, i1, i2, s0, s1, s2]
  split <;> omega
theorem S5_ok (h1 : Drawn 2 0 one) (h2 : Drawn 2 0 two) (h3 : Drawn 2 0 three) :  tS5 (progs 149).1 [some d0, some (.obj n), x2, some (enc one), some (enc two), some (enc three), some (enc (lgg one two)), some (.tupx (prD (srt (side (·.1) (lgn one two))))), some (.tupx (prD (srt (side (·.2) (lgn one two))))), x9, x10, x11, x12, x13, x14, x15, x16, x17, x18, x19, x20, x21] ih = some (.nx, [some d0, some (.obj n), x2, some (enc one), some (enc two), some (enc three), some (enc (lgg one two)), some (.tupx (prD (srt (side (·.1) (lgn one two))))), some (.tupx (prD (srt (side (·.2) (lgn one two))))), some (enc (lgg (lgg one two) three)), x10, x11, x12, x13, x14, x15, x16, x17, x18, x19, x20, x21], ih)  := by
  have d1 := h1.dep
  have d2 := h2.dep
  have d3 := h3.dep
  have z1 := h1.sz (Nat.le_refl _)
  have z2 := h2.sz (Nat.le_refl _)
  have z3 := h3.sz (Nat.le_refl _)
  have c1 := lgg_dep (s := one) (t := two)
  have k1 := lgg_size (s := one) (t := two)
  have g := generalized_ok (m := 149) (s := one) (t := two) (ih := ih) (by omega) (by omega) (by omega) (by omega)
  have g2 := generalized_ok (m := 149) (s := lgg one two) (t := three) (ih := ih) (by omega) (by omega) (by omega) (by omega)
  unfold tS5
  simp [g, g2]
theorem S6_ok (h1 : Drawn 2 0 one) (h2 : Drawn 2 0 two) (h3 : Drawn 2 0 three) :  tS6 (progs 149).1 [some d0, some (.obj n), x2, some (enc one), some (enc two), some (enc three), some (enc (lgg one two)), some (.tupx (prD (srt (side (·.1) (lgn one two))))), some (.tupx (prD (srt (side (·.2) (lgn one two))))), some (enc (lgg (lgg one two) three)), x10, x11, x12, x13, x14, x15, x16, x17, x18, x19, x20, x21] ih = some (.nx, [some d0, some (.obj n), x2, some (enc one), some (enc two), some (enc three), some (enc (lgg one two)), some (.tupx (prD (srt (side (·.1) (lgn one two))))), some (.tupx (prD (srt (side (·.2) (lgn one two))))), some (enc (lgg (lgg one two) three)), some (enc (lgg one (lgg two three))), x11, x12, x13, x14, x15, x16, x17, x18, x19, x20, x21], ih)  := by
  have d1 := h1.dep
  have d2 := h2.dep
  have d3 := h3.dep
  have z1 := h1.sz (Nat.le_refl _)
  have z2 := h2.sz (Nat.le_refl _)
  have z3 := h3.sz (Nat.le_refl _)
  have c1 := lgg_dep (s := two) (t := three)
  have k1 := lgg_size (s := two) (t := three)
  have g := generalized_ok (m := 149) (s := two) (t := three) (ih := ih) (by omega) (by omega) (by omega) (by omega)
  have g2 := generalized_ok (m := 149) (s := one) (t := lgg two three) (ih := ih) (by omega) (by omega) (by omega) (by omega)
  unfold tS6
  simp [g, g2]
theorem S7_ok (h1 : Drawn 2 0 one) (h2 : Drawn 2 0 two) (h3 : Drawn 2 0 three) :  tS7 (progs 149).1 [some d0, some (.obj n), x2, some (enc one), some (enc two), some (enc three), some (enc (lgg one two)), some (.tupx (prD (srt (side (·.1) (lgn one two))))), some (.tupx (prD (srt (side (·.2) (lgn one two))))), some (enc (lgg (lgg one two) three)), some (enc (lgg one (lgg two three))), x11, x12, x13, x14, x15, x16, x17, x18, x19, x20, x21] ih = some (.nx, [some d0, some (.obj n), x2, some (enc one), some (enc two), some (enc three), some (enc (lgg one two)), some (.tupx (prD (srt (side (·.1) (lgn one two))))), some (.tupx (prD (srt (side (·.2) (lgn one two))))), some (enc (lgg (lgg one two) three)), some (enc (lgg one (lgg two three))), x11, x12, x13, x14, x15, x16, x17, x18, x19, x20, x21], ih)  := by
  have d1 := h1.dep
  have d2 := h2.dep
  have d3 := h3.dep
  have z1 := h1.sz (Nat.le_refl _)
  have z2 := h2.sz (Nat.le_refl _)
  have z3 := h3.sz (Nat.le_refl _)
  have c1 := lgg_dep (s := one) (t := two)
  have k1 := lgg_size (s := one) (t := two)
  have c2 := lgg_dep (s := lgg one two) (t := three)
  have k2 := lgg_size (s := lgg one two) (t := three)
  have c3 := lgg_dep (s := one) (t := lgg two three)
  have k3 := lgg_size (s := one) (t := lgg two three)
  have c4 := lgg_dep (s := one) (t := one)
  have k4 := lgg_size (s := one) (t := one)
  have c5 := (tidy_le one).dep
  have k5 := (tidy_le one).size
  have w1 := is_variant_ok (m := 149) (s := lgg (lgg one two) three) (t := lgg one (lgg two three)) (ih := ih) (by omega) (by omega) (by omega) (by omega) (by omega) (by omega)
  have w2 := is_variant_ok (m := 149) (s := lgg one one) (t := one) (ih := ih) (by omega) (by omega) (by omega) (by omega) (by omega) (by omega)
  have w3 := is_variant_ok (m := 149) (s := tidy one) (t := one) (ih := ih) (by omega) (by omega) (by omega) (by omega) (by omega) (by omega)
  rw [lgg_assoc] at w1
  rw [lgg_of_le (.refl one)] at w2
  rw [tidy_tidy] at w3
  have g := generalized_ok (m := 149) (s := one) (t := one) (ih := ih) (by omega) (by omega) (by omega) (by omega)
  have t1 := tidy_ok (m := 149) (t := one) (ih := ih) (by omega) (by omega)
  unfold tS7
  simp [w1, w2, w3, g, t1]
theorem S8_ok {T : Tp} (h : TpAt ih n T) (h1 : Drawn 2 0 one) : ∃ l T', 0 ≤ T'.at_ ∧ l.map (·.1) = vrs one ∧ Vals l ∧ tS8 (progs 149).1 [some d0, some (.obj n), x2, some (enc one), some (enc two), some (enc three), some (enc (lgg one two)), some (.tupx (prD (srt (side (·.1) (lgn one two))))), some (.tupx (prD (srt (side (·.2) (lgn one two))))), some (enc (lgg (lgg one two) three)), some (enc (lgg one (lgg two three))), x11, x12, x13, x14, x15, x16, x17, x18, x19, x20, x21] ih = some (.nx, [some d0, some (.obj n), x2, some (enc one), some (enc two), some (enc three), some (enc (lgg one two)), some (.tupx (prD (srt (side (·.1) (lgn one two))))), some (.tupx (prD (srt (side (·.2) (lgn one two))))), some (enc (lgg (lgg one two) three)), some (enc (lgg one (lgg two three))), some (.obj ih.length), x12, x13, x14, x15, x16, x17, x18, x19, x20, x21], ih.set n (.dct (kvT T')) ++ [.dct (encA l)]) := by
  have z1 := h1.sz (Nat.le_refl _)
  obtain ⟨l, T', a1, a2, a3, e⟩ := values_ok (m := 145) (t := one) h (by omega)
  refine ⟨l, T', a1, a2, a3, ?_⟩
  unfold tS8
  simp [e]
end
end Gh.K67
end
section
set_option Elab.async false
set_option linter.all false
set_option maxRecDepth 100000
/-! k67: what each further statement of the turn does. Printed by k67turn2.py. -/
namespace Gh.K67
open PySem PySem.Spec PyProof.Rows L2 Tm
section
variable {d0 : D} {n v : Nat} {x2 x3 x4 x5 x6 x7 x8 x9 x10 x11 x12 x13 x14 x15 x16 x17 x18 x19 x20 x21 : Option D} {ih : IH} {one two three : Tm} {vals : AL}
theorem vals_dep {l : AL} (h : Vals l) (x : Nat) : (fn l x).dep ≤ 2 := by
  unfold fn
  cases e : l.lookup x with
  | some t => exact h.dep x t (lookup_mem e)
  | none => simp [dep]
theorem lower_dep {l : AL} (h : Vals l) {t : Tm} (ht : t.dep ≤ 3) : (sb (fn l) t).dep ≤ 5 := dep_sb_le (n := 3) (m := 2) (vals_dep h) ht
theorem rest_dep {l : AL} (h : Vals l) {t : Tm} (ht : t.dep ≤ 5) : (sb (fn l) t).dep ≤ 7 := dep_sb_le (n := 5) (m := 2) (vals_dep h) ht
theorem S9_ok (h1 : Drawn 2 0 one) (h2 : Drawn 2 0 two) (h3 : Drawn 2 0 three) (hv : Vals vals) (gv : getKvs (.obj v) ih = some (encA vals)) :  tS9 (progs 149).1 [some d0, some (.obj n), x2, some (enc one), some (enc two), some (enc three), x6, x7, x8, x9, x10, some (.obj v), x12, x13, x14, x15, x16, x17, x18, x19, x20, x21] ih = some (.nx, [some d0, some (.obj n), x2, some (enc one), some (enc two), some (enc three), x6, x7, x8, x9, x10, some (.obj v), some (enc (sb (fn vals) one)), x13, x14, x15, x16, x17, x18, x19, x20, x21], ih)  := by
  have d1 := h1.dep
  have d2 := h2.dep
  have d3 := h3.dep
  have z1 := h1.sz (Nat.le_refl _)
  have z2 := h2.sz (Nat.le_refl _)
  have z3 := h3.sz (Nat.le_refl _)
  have p := put_in_al gv (t := one) (m := 149) (by omega)
  unfold tS9
  simp [p]
theorem S10_ok (h1 : Drawn 2 0 one) (h2 : Drawn 2 0 two) (h3 : Drawn 2 0 three) (hv : Vals vals) (gv : getKvs (.obj v) ih = some (encA vals)) :  tS10 (progs 149).1 [some d0, some (.obj n), x2, some (enc one), some (enc two), some (enc three), x6, x7, x8, x9, x10, some (.obj v), some (enc (sb (fn vals) one)), x13, x14, x15, x16, x17, x18, x19, x20, x21] ih = some (.nx, [some d0, some (.obj n), x2, some (enc one), some (enc two), some (enc three), x6, x7, x8, x9, x10, some (.obj v), some (enc (sb (fn vals) one)), x13, x14, x15, x16, x17, x18, x19, x20, x21], ih)  := by
  have d1 := h1.dep
  have d2 := h2.dep
  have d3 := h3.dep
  have z1 := h1.sz (Nat.le_refl _)
  have z2 := h2.sz (Nat.le_refl _)
  have z3 := h3.sz (Nat.le_refl _)
  have dl := lower_dep hv (t := one) (by omega)
  have zl := size_7 (t := sb (fn vals) one) (by omega)
  have hle : Le one (sb (fn vals) one) := ⟨_, rfl⟩
  have m1 := match_ok (m := 149) (p := one) (t := sb (fn vals) one) (ih := ih) (by omega) (by omega) (by omega)
  have m2 := match_ok (m := 149) (p := sb (fn vals) one) (t := one) (ih := ih) (by omega) (by omega) (by omega)
  have g := generalized_ok (m := 149) (s := one) (t := sb (fn vals) one) (ih := ih) (by omega) (by omega) (by omega) (by omega)
  have c1 := lgg_dep (s := one) (t := sb (fn vals) one)
  have k1 := lgg_size (s := one) (t := sb (fn vals) one)
  have w1 := is_variant_ok (m := 149) (s := lgg one (sb (fn vals) one)) (t := one) (ih := ih) (by omega) (by omega) (by omega) (by omega) (by omega) (by omega)
  have w2 := is_variant_ok (m := 149) (s := one) (t := sb (fn vals) one) (ih := ih) (by omega) (by omega) (by omega) (by omega) (by omega) (by omega)
  rw [lgg_of_le hle] at w1
  have i1 : isNon (mtD one (sb (fn vals) one)) = false := by simp [match_non, hle]
  have i2 : isNon (mtD (sb (fn vals) one) one) = !decide (tidy one = tidy (sb (fn vals) one)) := by
    rw [match_non]
    congr 1
    rw [decide_eq_decide, tidy_eq_iff]
    exact ⟨fun h => ⟨hle, h⟩, fun h => h.2⟩
  unfold tS10
  simp [m1, m2, g, w1, w2, i1, i2]
theorem S11_ok (h1 : Drawn 2 0 one) (h2 : Drawn 2 0 two) (h3 : Drawn 2 0 three) :  tS11 (progs 149).1 [some d0, some (.obj n), x2, some (enc one), some (enc two), some (enc three), x6, x7, x8, x9, x10, some (.obj v), some (enc (sb (fn vals) one)), x13, x14, x15, x16, x17, x18, x19, x20, x21] ih = some (.nx, [some d0, some (.obj n), x2, some (enc one), some (enc two), some (enc three), x6, x7, x8, x9, x10, some (.obj v), some (enc (sb (fn vals) one)), x13, x14, x15, x16, x17, x18, x19, x20, x21], ih)  := by
  have d1 := h1.dep
  have d2 := h2.dep
  have d3 := h3.dep
  have z1 := h1.sz (Nat.le_refl _)
  have z2 := h2.sz (Nat.le_refl _)
  have z3 := h3.sz (Nat.le_refl _)
  have m1 := match_ok (m := 149) (p := one) (t := two) (ih := ih) (by omega) (by omega) (by omega)
  have m2 := match_ok (m := 149) (p := two) (t := one) (ih := ih) (by omega) (by omega) (by omega)
  have w := is_variant_ok (m := 149) (s := one) (t := two) (ih := ih) (by omega) (by omega) (by omega) (by omega) (by omega) (by omega)
  have t1 := tidy_ok (m := 149) (t := one) (ih := ih) (by omega) (by omega)
  have t2 := tidy_ok (m := 149) (t := two) (ih := ih) (by omega) (by omega)
  have c1 := (tidy_le one).dep
  have c2 := (tidy_le two).dep
  have e := fEq_enc (s := tidy one) (t := tidy two) (by omega) (by omega) ih
  have i1 := match_non (p := one) (t := two)
  have i2 := match_non (p := two) (t := one)
  have q := tidy_eq_iff (s := one) (t := two)
  unfold tS11
  by_cases q1 : Le one two
  · by_cases q2 : Le two one
    · have q3 : tidy one = tidy two := q.mpr ⟨q1, q2⟩
      simp [m1, m2, w, t1, t2, e, i1, i2, q1, q2, q3]
      simp [q3] at e w
      rw [e]
      simp [w]
    · have q3 : ¬ tidy one = tidy two := fun z => q2 (q.mp z).2
      simp [m1, m2, w, t1, t2, e, i1, i2, q1, q2, q3]
  · have q3 : ¬ tidy one = tidy two := fun z => q1 (q.mp z).1
    simp [m1, m2, w, t1, t2, e, i1, i2, q1, q3]
theorem S12_ok (h1 : Drawn 2 0 one) (h2 : Drawn 2 0 two) (h3 : Drawn 2 0 three) :  tS12 (progs 149).1 [some d0, some (.obj n), x2, some (enc one), some (enc two), some (enc three), x6, x7, x8, x9, x10, some (.obj v), some (enc (sb (fn vals) one)), x13, x14, x15, x16, x17, x18, x19, x20, x21] ih = some (.nx, [some d0, some (.obj n), x2, some (enc one), some (enc two), some (enc three), x6, x7, x8, x9, x10, some (.obj v), some (enc (sb (fn vals) one)), some (enc (mv 20 two)), x14, x15, x16, x17, x18, x19, x20, x21], ih)  := by
  have d1 := h1.dep
  have d2 := h2.dep
  have d3 := h3.dep
  have z1 := h1.sz (Nat.le_refl _)
  have z2 := h2.sz (Nat.le_refl _)
  have z3 := h3.sz (Nat.le_refl _)
  have p : (progs 149).1 .law_moved [enc two, .int 20] ih = some (enc (mv 20 two), ih) := moved_ok (s := 20) (by omega)
  unfold tS12
  simp [p]
theorem unify1 (h1 : Drawn 2 0 one) (h2 : Drawn 2 0 two) (s t : Tm) (hst : (s = one ∧ t = mv 20 two) ∨ (s = mv 20 two ∧ t = one)) : ∃ r, (progs 149).1 .unify [.lst [.tup [enc s, enc t]]] ih = some (r, ih) ∧ UniOk 5 [(s, t)] r := by
  have d1 := h1.dep
  have d2 := h2.dep
  have p1 := h1.pd
  have p2 := h2.pd
  have hd : s.dep ≤ 3 ∧ t.dep ≤ 3 ∧ s.pd ≤ 2 ∧ t.pd ≤ 2 := by
    rcases hst with ⟨rfl, rfl⟩ | ⟨rfl, rfl⟩
    · rw [dep_mv, pd_mv]
      omega
    · rw [dep_mv, pd_mv]
      omega
  obtain ⟨e1, e2, e3, e4⟩ := hd
  have z1 := size_pd2 e3
  have z2 := size_pd2 e4
  refine unify_ok (m := 149) (B := 5) (ih := ih) (P := [(s, t)]) (by decide) (fun p hp => ?_) ?_ (by simp) (fun _ a x => ?_) (by decide)
  · simp at hp
    subst hp
    exact ⟨Nat.le_trans e1 (by decide), Nat.le_trans e2 (by decide)⟩
  · have hl : (uni [(s, t)]).length ≤ 14 := by
      simp [uni, subs_len]
      omega
    exact Nat.lt_of_le_of_lt (Nat.mul_le_mul hl hl) (by decide)
  · exact va_bound e3 e4 (clos_ok _) a x
theorem S13_ok (h1 : Drawn 2 0 one) (h2 : Drawn 2 0 two) : ∃ r, UniOk 5 [(one, mv 20 two)] r ∧ tS13 (progs 149).1 [some d0, some (.obj n), x2, some (enc one), some (enc two), some (enc three), x6, x7, x8, x9, x10, some (.obj v), some (enc (sb (fn vals) one)), some (enc (mv 20 two)), x14, x15, x16, x17, x18, x19, x20, x21] ih = some (.nx, [some d0, some (.obj n), x2, some (enc one), some (enc two), some (enc three), x6, x7, x8, x9, x10, some (.obj v), some (enc (sb (fn vals) one)), some (enc (mv 20 two)), some r, x15, x16, x17, x18, x19, x20, x21], ih) := by
  obtain ⟨r, e1, e2⟩ := unify1 (ih := ih) h1 h2 one (mv 20 two) (.inl ⟨rfl, rfl⟩)
  refine ⟨r, e2, ?_⟩
  unfold tS13
  simp [e1, sz]
theorem S14_ok (h1 : Drawn 2 0 one) (h2 : Drawn 2 0 two) (hv : Vals vals) (gv : getKvs (.obj v) ih = some (encA vals)) {r : D} (hr : UniOk 5 [(one, mv 20 two)] r) : ∃ y15 y16 y17, tS14 (progs 149).1 [some d0, some (.obj n), x2, some (enc one), some (enc two), some (enc three), x6, x7, x8, x9, x10, some (.obj v), some (enc (sb (fn vals) one)), some (enc (mv 20 two)), some r, x15, x16, x17, x18, x19, x20, x21] ih = some (.nx, [some d0, some (.obj n), x2, some (enc one), some (enc two), some (enc three), x6, x7, x8, x9, x10, some (.obj v), some (enc (sb (fn vals) one)), some (enc (mv 20 two)), some r, y15, y16, y17, x18, x19, x20, x21], ih) := by
  have d1 := h1.dep
  have d2 := h2.dep
  have p1 := h1.pd
  have p2 := h2.pd
  have z1 := h1.sz (Nat.le_refl _)
  have z2 := h2.sz (Nat.le_refl _)
  rcases hr with ⟨l, rfl, hk, hu, hdl, hg⟩ | ⟨rest, w, hw, rfl, hn⟩
  · have M : Mgu [(one, mv 20 two)] (fn l) := ⟨hu, hg⟩
    have eq : sb (fn l) one = sb (fn l) (mv 20 two) := hu (one, mv 20 two) (by simp)
    have dw : (sb (fn l) one).dep ≤ 7 := by
      have := dep_pd (σ := fn l) (m := 5) (by decide) (t := one) fun y _ => hdl y
      omega
    have zw := size_7 dw
    have fx := dictX_prD hk (ih := ih)
    have gx : getKvs (.dct ((encA l).map (·.1)) ((encA l).map (·.2))) ih = some (encA l) := by rw [getKvs_dct, Tm.zip_fst_snd]
    have q1 := put_in_al gx (t := one) (m := 149) (by omega)
    have q2 := put_in_al gx (t := mv 20 two) (m := 149) (by rw [dep_mv]; omega)
    rw [← eq] at q2
    have e1 := fNe_enc (s := sb (fn l) one) (t := sb (fn l) one) (by omega) (by omega) ih
    have m1 := match_ok (m := 149) (p := one) (t := sb (fn l) one) (ih := ih) (by omega) (by omega) (by omega)
    have m2 := match_ok (m := 149) (p := two) (t := sb (fn l) one) (ih := ih) (by omega) (by omega) (by omega)
    have hle1 : Le one (sb (fn l) one) := ⟨_, rfl⟩
    have i1 : isNon (mtD one (sb (fn l) one)) = false := by simp [match_non, hle1]
    have hle2 : Le two (sb (fn l) one) := by
      rw [eq, mv_sb]
      exact ⟨_, rfl⟩
    have i2 : isNon (mtD two (sb (fn l) one)) = false := by simp [match_non, hle2]
    have me := makes_equal_ok (m := 148) (ih := ih) (P := [(one, mv 20 two)]) (l := l) hk (fun p hp => by
      simp at hp
      subst hp
      simp only
      rw [dep_mv]
      exact ⟨by omega, by omega, by omega, eq⟩) (by simp)
    have hP2 : (uni [(one, mv 20 two), (one, sb (fn l) one)]).length ≤ 300 := by
      have : size (mv 20 two) ≤ 7 := size_pd2 (by rw [pd_mv]; exact p2)
      simp [uni, subs_len]
      omega
    obtain ⟨r2, u1, u2⟩ := unify_ok (m := 149) (B := 5) (ih := ih) (P := [(one, mv 20 two), (one, sb (fn l) one)]) (by decide) (fun p hp => by
      simp at hp
      rcases hp with rfl | rfl
      · simp only
        rw [dep_mv]
        omega
      · exact ⟨by simp only; omega, dw⟩) (Nat.lt_of_le_of_lt (Nat.mul_le_mul hP2 hP2) (by decide)) (by simp) (fun _ a x => by
        have h := va_mgu' (clos_ok [(one, mv 20 two), (one, sb (fn l) one)]) a M.again x
        exact Nat.le_trans (Le.dep ⟨_, h⟩) (hdl x)) (by decide)
    rcases u2 with ⟨l2, rfl, hk2, hu2, hdl2, hg2⟩ | ⟨_, _, _, _, hn2⟩
    · have M2 : Mgu [(one, mv 20 two), (one, sb (fn l) one)] (fn l2) := ⟨hu2, hg2⟩
      have fx2 := dictX_prD hk2 (ih := ih)
      have gx2 : getKvs (.dct ((encA l2).map (·.1)) ((encA l2).map (·.2))) ih = some (encA l2) := by rw [getKvs_dct, Tm.zip_fst_snd]
      have q3 := put_in_al gx2 (t := one) (m := 149) (by omega)
      have var := M.variant M2
      have dw2 : (sb (fn l2) one).dep ≤ 7 := by
        have := dep_pd (σ := fn l2) (m := 5) (by decide) (t := one) fun y _ => hdl2 y
        omega
      have zw2 := size_7 dw2
      have w := is_variant_ok (m := 149) (s := sb (fn l2) one) (t := sb (fn l) one) (ih := ih) (by omega) (by omega) (by omega) (by omega) (by omega) (by omega)
      rw [var] at w
      refine ⟨some (enc (sb (fn l) one)), some (.tup [.str "unified", .tupx (prD l2)]), x17, ?_⟩
      simp only [encP, List.map_cons, List.map_nil] at me u1
      unfold tS14
      simp [-fDictX_ap, fx, q1, q2, e1, m1, m2, i1, i2, me, u1, fx2, q3, w, sz]
    · exact absurd ⟨_, M.again⟩ hn2
  · have q1 := put_in_al gv (t := one) (m := 149) (by omega)
    have dl := lower_dep hv (t := one) (by omega)
    have m1 := match_ok (m := 149) (p := two) (t := sb (fn vals) one) (ih := ih) (by omega) (by omega) (by omega)
    have nl := not_le_of (ρ := fn vals) (fun x hx => by have := h1.occ x hx; omega) hn
    have i1 : isNon (mtD two (sb (fn vals) one)) = true := by simp [match_non, nl]
    refine ⟨x15, x16, some (enc (sb (fn vals) one)), ?_⟩
    unfold tS14
    rcases hw with rfl | rfl
    · simp [q1, m1, i1]
    · simp [q1, m1, i1]
end
end Gh.K67
end
section
set_option Elab.async false
set_option linter.all false
set_option maxRecDepth 100000
/-! k67: the last statements of the turn. Printed by k67turn3.py. -/
namespace Gh.K67
open PySem PySem.Spec PyProof.Rows L2 Tm
section
variable {d0 : D} {n v w z : Nat} {x2 x3 x4 x5 x6 x7 x8 x9 x10 x11 x12 x13 x14 x15 x16 x17 x18 x19 x20 x21 : Option D} {ih : IH} {one two three : Tm} {vals more : AL}
/-- the values, more put in -/
def cmp (more vals : AL) : AL := vals.map fun p => (p.1, sb (fn more) p.2)
theorem cmp_look {more vals : AL} {x : Nat} : (cmp more vals).lookup x = (vals.lookup x).map (sb (fn more)) := by
  induction vals with
  | nil => rfl
  | cons p l ih =>
    obtain ⟨y, t⟩ := p
    unfold cmp at ih ⊢
    rw [List.map_cons, List.lookup, List.lookup]
    cases x == y
    · exact ih
    · rfl
theorem cmp_sb {more vals : AL} {t : Tm} (h : ∀ x ∈ occ t, x ∈ vals.map (·.1)) : sb (fn (cmp more vals)) t = sb (fn more) (sb (fn vals) t) := by
  rw [sb_sb]
  refine sb_congr fun x hx => ?_
  unfold fn
  rw [cmp_look]
  cases e : vals.lookup x with
  | some s => rfl
  | none => exact absurd (h x hx) (lookup_not e)
theorem S15_ok {T : Tp} {r : D} (h : TpAt ih n T) (h1 : Drawn 2 0 one) (hv : Vals vals) : ∃ l T', 0 ≤ T'.at_ ∧ Vals l ∧ tS15 (progs 149).1 [some d0, some (.obj n), x2, some (enc one), some (enc two), some (enc three), x6, x7, x8, x9, x10, some (.obj v), some (enc (sb (fn vals) one)), some (enc (mv 20 two)), some r, x15, x16, x17, x18, x19, x20, x21] ih = some (.nx, [some d0, some (.obj n), x2, some (enc one), some (enc two), some (enc three), x6, x7, x8, x9, x10, some (.obj v), some (enc (sb (fn vals) one)), some (enc (mv 20 two)), some r, x15, x16, x17, some (.obj ih.length), x19, x20, x21], ih.set n (.dct (kvT T')) ++ [.dct (encA l)]) := by
  have d1 := h1.dep
  have dl := lower_dep hv (t := one) (by omega)
  have zl := size_7 (t := sb (fn vals) one) (by omega)
  obtain ⟨l, T', a1, a2, a3, e⟩ := values_ok (m := 145) (t := sb (fn vals) one) h (by omega)
  refine ⟨l, T', a1, a3, ?_⟩
  unfold tS15
  simp [e]
theorem S16_ok {r : D} : tS16 (progs 149).1 [some d0, some (.obj n), x2, some (enc one), some (enc two), some (enc three), x6, x7, x8, x9, x10, some (.obj v), some (enc (sb (fn vals) one)), some (enc (mv 20 two)), some r, x15, x16, x17, some (.obj w), x19, x20, x21] ih = some (.nx, [some d0, some (.obj n), x2, some (enc one), some (enc two), some (enc three), x6, x7, x8, x9, x10, some (.obj v), some (enc (sb (fn vals) one)), some (enc (mv 20 two)), some r, x15, x16, x17, some (.obj w), some (.obj ih.length), x20, x21], ih ++ [.dct []]) := by
  unfold tS16
  simp
theorem both_loop {r : D} (hvw : v ≠ w) (hvz : v ≠ z) (hwz : w ≠ z) (hvals : ∀ x t, (x, t) ∈ vals → t.dep ≤ 2) (hk : Tm.Keyed vals) (hl : vals.length ≤ 1000000) : ∀ (rest done : AL) (K : IH) (x20 : Option D), done ++ rest = vals → K[v]? = some (.lck (encA vals)) → K[w]? = some (.dct (encA more)) → K[z]? = some (.dct (encA (cmp more done))) →
    ∃ y20, forL (fun h => decide (h[v]? = some (.lck (encA vals)))) (gNm 20) (yAsg (xArgs ((progs 149).1 .put_in) (xCons (xBin fIx (xVar 11) (xVar 20)) (xCons (xVar 18) xNil))) (gSb (xVar 19) (xVar 20) wSetD)) (intL (rest.map (·.1))) [some d0, some (.obj n), x2, some (enc one), some (enc two), some (enc three), x6, x7, x8, x9, x10, some (.obj v), some (enc (sb (fn vals) one)), some (enc (mv 20 two)), some r, x15, x16, x17, some (.obj w), some (.obj z), x20, x21] K = some (.nx, [some d0, some (.obj n), x2, some (enc one), some (enc two), some (enc three), x6, x7, x8, x9, x10, some (.obj v), some (enc (sb (fn vals) one)), some (enc (mv 20 two)), some r, x15, x16, x17, some (.obj w), some (.obj z), y20, x21], K.set z (.dct (encA (cmp more vals))))
  | [], done, K, x20, he, h1, h2, h3 => by
    simp at he
    subst he
    exact ⟨x20, by simp [intL, h1, set_same h3]⟩
  | (x, t) :: rest, done, K, x20, he, h1, h2, h3 => by
    have hm : (x, t) ∈ vals := by
      rw [← he]
      simp
    have hlk : vals.lookup x = some t := (lookup_iff hk).mpr hm
    have hd := hvals x t hm
    have gm : getKvs (.obj w) K = some (encA more) := by simp [h2]
    have p := put_in_al gm (t := t) (m := 149) (by omega)
    have hnd : done.lookup x = none := by
      rw [Option.eq_none_iff_forall_ne_some]
      intro s hs
      have hk2 := hk
      unfold Tm.Keyed at hk2
      rw [← he, List.map_append, List.nodup_append] at hk2
      exact hk2.2.2 x (List.mem_map.mpr ⟨_, lookup_mem hs, rfl⟩) x (by simp) rfl
    have hnc : (cmp more done).lookup x = none := by rw [cmp_look, hnd]; rfl
    have hput := encA_new (t := sb (fn more) t) hnc
    have hcm : cmp more done ++ [(x, sb (fn more) t)] = cmp more (done ++ [(x, t)]) := by simp [cmp]
    rw [hcm] at hput
    have hdl : (encA (cmp more done)).length < 16777216 := by
      rw [encA_len, cmp, List.length_map]
      have := congrArg List.length he
      simp at this
      omega
    obtain ⟨y20, e⟩ := both_loop hvw hvz hwz hvals hk hl rest (done ++ [(x, t)]) (K.set z (.dct (encA (cmp more (done ++ [(x, t)]))))) (some (.int x)) (by simpa using he) (by rw [get_set_ne (fun q => hvz q.symm), h1]) (by rw [get_set_ne (fun q => hwz q.symm), h2]) (get_set h3)
    rw [List.set_set] at e
    refine ⟨y20, ?_⟩
    have e4 : intL (((x, t) :: rest).map (·.1)) = .int x :: intL (rest.map (·.1)) := rfl
    have hix := fIx_lck (b := .int x) h1
    simp only [hkeyI, Option.bind_some, encA_look, hlk, Option.map_some] at hix
    rw [← e, e4, forL_cons]
    simp [h1, hix, p, h3, sz, hdl, hput]
theorem S17_ok {r : D} (hvw : v ≠ w) (hvz : v ≠ z) (hwz : w ≠ z) (hvals : ∀ x t, (x, t) ∈ vals → t.dep ≤ 2) (hk : Tm.Keyed vals) (hl : vals.length ≤ 1000000) (h1 : ih[v]? = some (.dct (encA vals))) (h2 : ih[w]? = some (.dct (encA more))) (h3 : ih[z]? = some (.dct [])) : ∃ y20, tS17 (progs 149).1 [some d0, some (.obj n), x2, some (enc one), some (enc two), some (enc three), x6, x7, x8, x9, x10, some (.obj v), some (enc (sb (fn vals) one)), some (enc (mv 20 two)), some r, x15, x16, x17, some (.obj w), some (.obj z), x20, x21] ih = some (.nx, [some d0, some (.obj n), x2, some (enc one), some (enc two), some (enc three), x6, x7, x8, x9, x10, some (.obj v), some (enc (sb (fn vals) one)), some (enc (mv 20 two)), some r, x15, x16, x17, some (.obj w), some (.obj z), y20, x21], ih.set z (.dct (encA (cmp more vals)))) := by
  obtain ⟨y20, e⟩ := both_loop (d0 := d0) (n := n) (x2 := x2) (x6 := x6) (x7 := x7) (x8 := x8) (x9 := x9) (x10 := x10) (x15 := x15) (x16 := x16) (x17 := x17) (x21 := x21) (one := one) (two := two) (three := three) (r := r) hvw hvz hwz hvals hk hl vals [] (ih.set v (.lck (encA vals))) x20 rfl (get_set h1) (by rw [get_set_ne hvw, h2]) (by rw [get_set_ne hvz, h3]; rfl)
  refine ⟨y20, ?_⟩
  have hi : (encA vals).map (·.1) = intL (vals.map (·.1)) := by simp [encA, kvs, intL, List.map_map, Function.comp_def]
  have hg : (ih.set v (.lck (encA vals)))[v]? = some (.lck (encA vals)) := get_set h1
  have hg2 : ((ih.set v (.lck (encA vals))).set z (.dct (encA (cmp more vals))))[v]? = some (.lck (encA vals)) := by rw [get_set_ne (fun q => hvz q.symm), hg]
  have hs : ((ih.set v (.lck (encA vals))).set z (.dct (encA (cmp more vals)))).set v (.dct (encA vals)) = ih.set z (.dct (encA (cmp more vals))) := by
    rw [List.set_comm _ _ hvz, List.set_set, List.set_comm _ _ (fun q => hvz q.symm), set_same h1]
  unfold tS17
  simp only [yLk, lckOf, List.getElem?_cons_succ, List.getElem?_cons_zero, h1, yFor_ap, xSrc_ap, xVar_ap, Option.bind_some, srcAny, hg, Option.map_some, hi, e]
  rw [if_pos hg2, hs]
theorem S18_ok {r : D} (h1 : Drawn 2 0 one) (hv : Vals vals) (hm : Vals more) (hks : vals.map (·.1) = vrs one) (g2 : getKvs (.obj w) ih = some (encA more)) (g3 : getKvs (.obj z) ih = some (encA (cmp more vals))) : tS18 (progs 149).1 [some d0, some (.obj n), x2, some (enc one), some (enc two), some (enc three), x6, x7, x8, x9, x10, some (.obj v), some (enc (sb (fn vals) one)), some (enc (mv 20 two)), some r, x15, x16, x17, some (.obj w), some (.obj z), x20, x21] ih = some (.nx, [some d0, some (.obj n), x2, some (enc one), some (enc two), some (enc three), x6, x7, x8, x9, x10, some (.obj v), some (enc (sb (fn vals) one)), some (enc (mv 20 two)), some r, x15, x16, x17, some (.obj w), some (.obj z), x20, x21], ih) := by
  have d1 := h1.dep
  have dl := lower_dep hv (t := one) (by omega)
  have dr := rest_dep hm (t := sb (fn vals) one) (by omega)
  have p1 := put_in_al g2 (t := sb (fn vals) one) (m := 149) (by omega)
  have p2 := put_in_al g3 (t := one) (m := 149) (by omega)
  rw [cmp_sb (fun x hx => by rw [hks]; exact mem_vrs.mpr hx)] at p2
  have e := fNe_enc (s := sb (fn more) (sb (fn vals) one)) (t := sb (fn more) (sb (fn vals) one)) (by omega) (by omega) ih
  unfold tS18
  simp [p1, p2, e]
theorem S19_ok {r : D} (h1 : Drawn 2 0 one) (h2 : Drawn 2 0 two) : ∃ r2, UniOk 5 [(mv 20 two, one)] r2 ∧ tS19 (progs 149).1 [some d0, some (.obj n), x2, some (enc one), some (enc two), some (enc three), x6, x7, x8, x9, x10, some (.obj v), some (enc (sb (fn vals) one)), some (enc (mv 20 two)), some r, x15, x16, x17, some (.obj w), some (.obj z), x20, x21] ih = some (.nx, [some d0, some (.obj n), x2, some (enc one), some (enc two), some (enc three), x6, x7, x8, x9, x10, some (.obj v), some (enc (sb (fn vals) one)), some (enc (mv 20 two)), some r, x15, x16, x17, some (.obj w), some (.obj z), x20, some r2], ih) := by
  obtain ⟨r2, e1, e2⟩ := unify1 (ih := ih) h1 h2 (mv 20 two) one (.inr ⟨rfl, rfl⟩)
  refine ⟨r2, e2, ?_⟩
  unfold tS19
  simp [e1, sz]
theorem S20_ok {r r2 : D} (hr : UniOk 5 [(one, mv 20 two)] r) (hr2 : UniOk 5 [(mv 20 two, one)] r2) : tS20 (progs 149).1 [some d0, some (.obj n), x2, some (enc one), some (enc two), some (enc three), x6, x7, x8, x9, x10, some (.obj v), some (enc (sb (fn vals) one)), some (enc (mv 20 two)), some r, x15, x16, x17, some (.obj w), some (.obj z), x20, some r2] ih = some (.nx, [some d0, some (.obj n), x2, some (enc one), some (enc two), some (enc three), x6, x7, x8, x9, x10, some (.obj v), some (enc (sb (fn vals) one)), some (enc (mv 20 two)), some r, x15, x16, x17, some (.obj w), some (.obj z), x20, some r2], ih) := by
  unfold tS20
  rcases hr with ⟨l, rfl, _, hu, _⟩ | ⟨rest, s, hs, rfl, hn⟩
  · rcases hr2 with ⟨l2, rfl, _⟩ | ⟨_, _, _, _, hn2⟩
    · simp
    · exact absurd (uni_swap.mp ⟨_, hu⟩) hn2
  · rcases hr2 with ⟨l2, rfl, _, hu2, _⟩ | ⟨rest2, s2, hs2, rfl, hn2⟩
    · exact absurd (uni_swap.mp ⟨_, hu2⟩) hn
    · rcases hs with rfl | rfl <;> rcases hs2 with rfl | rfl <;> simp
end
end Gh.K67
end
section
set_option Elab.async false
set_option linter.all false
set_option maxRecDepth 100000
/-! k67: the turn, the law. -/
namespace Gh.K67
open PySem PySem.Spec PyProof.Rows L2 Tm
theorem turn_ok {d0 : D} {n : Nat} {T : Tp} {ih : IH} (h : TpAt ih n T) (x2 x3 x4 x5 x6 x7 x8 x9 x10 x11 x12 x13 x14 x15 x16 x17 x18 x19 x20 x21 : Option D) :
    ∃ T' ih' y3 y4 y5 y6 y7 y8 y9 y10 y11 y12 y13 y14 y15 y16 y17 y18 y19 y20 y21, TpAt ih' n T' ∧ turnB (progs 149).1 [some d0, some (.obj n), x2, x3, x4, x5, x6, x7, x8, x9, x10, x11, x12, x13, x14, x15, x16, x17, x18, x19, x20, x21] ih = some (.nx, [some d0, some (.obj n), x2, y3, y4, y5, y6, y7, y8, y9, y10, y11, y12, y13, y14, y15, y16, y17, y18, y19, y20, y21], ih') := by
  obtain ⟨one, two, three, T1, h1, h2, h3, n1, e1⟩ := S1_ok (d0 := d0) (x2 := x2) (x3 := x3) (x4 := x4) (x5 := x5) (x6 := x6) (x7 := x7) (x8 := x8) (x9 := x9) (x10 := x10) (x11 := x11) (x12 := x12) (x13 := x13) (x14 := x14) (x15 := x15) (x16 := x16) (x17 := x17) (x18 := x18) (x19 := x19) (x20 := x20) (x21 := x21) h
  have a1 := h.set n1
  generalize hH1 : ih.set n (IO.dct (kvT T1)) = H1 at e1 a1
  obtain ⟨vals, T2, n2, hks, hv, e8⟩ := S8_ok (d0 := d0) (x2 := x2) (x11 := x11) (x12 := x12) (x13 := x13) (x14 := x14) (x15 := x15) (x16 := x16) (x17 := x17) (x18 := x18) (x19 := x19) (x20 := x20) (x21 := x21) (two := two) (three := three) a1 h1
  have a2 : TpAt (H1.set n (IO.dct (kvT T2)) ++ [IO.dct (encA vals)]) n T2 := (a1.set n2).app
  have hl2 : (H1.set n (IO.dct (kvT T2)) ++ [IO.dct (encA vals)]).length = H1.length + 1 := by simp
  have gv2 : (H1.set n (IO.dct (kvT T2)) ++ [IO.dct (encA vals)])[H1.length]? = some (.dct (encA vals)) := by
    have : (H1.set n (IO.dct (kvT T2))).length = H1.length := List.length_set
    rw [← this]
    simp
  have hn1 := a1.lt
  generalize hH2 : H1.set n (IO.dct (kvT T2)) ++ [IO.dct (encA vals)] = H2 at e8 a2 gv2 hl2
  have gk2 : getKvs (.obj H1.length) H2 = some (encA vals) := by simp [gv2]
  obtain ⟨r, hr, e13⟩ := S13_ok (d0 := d0) (n := n) (v := H1.length) (x2 := x2) (x6 := some (enc (lgg one two))) (x7 := some (.tupx (prD (srt (side (·.1) (lgn one two)))))) (x8 := some (.tupx (prD (srt (side (·.2) (lgn one two)))))) (x9 := some (enc (lgg (lgg one two) three))) (x10 := some (enc (lgg one (lgg two three)))) (x14 := x14) (x15 := x15) (x16 := x16) (x17 := x17) (x18 := x18) (x19 := x19) (x20 := x20) (x21 := x21) (ih := H2) (three := three) (vals := vals) h1 h2
  obtain ⟨y15, y16, y17, e14⟩ := S14_ok (d0 := d0) (n := n) (x2 := x2) (x6 := some (enc (lgg one two))) (x7 := some (.tupx (prD (srt (side (·.1) (lgn one two)))))) (x8 := some (.tupx (prD (srt (side (·.2) (lgn one two)))))) (x9 := some (enc (lgg (lgg one two) three))) (x10 := some (enc (lgg one (lgg two three)))) (x15 := x15) (x16 := x16) (x17 := x17) (x18 := x18) (x19 := x19) (x20 := x20) (x21 := x21) (three := three) h1 h2 hv gk2 hr
  obtain ⟨more, T3, n3, hm, e15⟩ := S15_ok (d0 := d0) (v := H1.length) (x2 := x2) (x6 := some (enc (lgg one two))) (x7 := some (.tupx (prD (srt (side (·.1) (lgn one two)))))) (x8 := some (.tupx (prD (srt (side (·.2) (lgn one two)))))) (x9 := some (enc (lgg (lgg one two) three))) (x10 := some (enc (lgg one (lgg two three)))) (x15 := y15) (x16 := y16) (x17 := y17) (x18 := x18) (x19 := x19) (x20 := x20) (x21 := x21) (two := two) (three := three) (r := r) a2 h1 hv
  have a3 : TpAt (H2.set n (IO.dct (kvT T3)) ++ [IO.dct (encA more)]) n T3 := (a2.set n3).app
  have hl3 : (H2.set n (IO.dct (kvT T3)) ++ [IO.dct (encA more)]).length = H2.length + 1 := by simp
  have gv3 : (H2.set n (IO.dct (kvT T3)) ++ [IO.dct (encA more)])[H1.length]? = some (.dct (encA vals)) := by
    rw [List.getElem?_append_left (by simp; omega), get_set_ne (by omega), gv2]
  have gm3 : (H2.set n (IO.dct (kvT T3)) ++ [IO.dct (encA more)])[H2.length]? = some (.dct (encA more)) := by
    have : (H2.set n (IO.dct (kvT T3))).length = H2.length := List.length_set
    rw [← this]
    simp
  generalize hH3 : H2.set n (IO.dct (kvT T3)) ++ [IO.dct (encA more)] = H3 at e15 a3 gv3 gm3 hl3
  have e16 := S16_ok (d0 := d0) (n := n) (v := H1.length) (w := H2.length) (x2 := x2) (x6 := some (enc (lgg one two))) (x7 := some (.tupx (prD (srt (side (·.1) (lgn one two)))))) (x8 := some (.tupx (prD (srt (side (·.2) (lgn one two)))))) (x9 := some (enc (lgg (lgg one two) three))) (x10 := some (enc (lgg one (lgg two three)))) (x15 := y15) (x16 := y16) (x17 := y17) (x19 := x19) (x20 := x20) (x21 := x21) (ih := H3) (one := one) (two := two) (three := three) (vals := vals) (r := r)
  have a4 : TpAt (H3 ++ [IO.dct []]) n T3 := a3.app
  have gv4 : (H3 ++ [IO.dct []])[H1.length]? = some (.dct (encA vals)) := by rw [List.getElem?_append_left (by omega), gv3]
  have gm4 : (H3 ++ [IO.dct []])[H2.length]? = some (.dct (encA more)) := by rw [List.getElem?_append_left (by omega), gm3]
  have gz4 : (H3 ++ [IO.dct []])[H3.length]? = some (.dct []) := by simp
  generalize hH4 : H3 ++ [IO.dct []] = H4 at e16 a4 gv4 gm4 gz4
  have hkv : Tm.Keyed vals := by
    unfold Tm.Keyed
    rw [hks]
    exact nodup_vrs
  have hvl : vals.length ≤ 1000000 := by
    have q1 := congrArg List.length hks
    have q2 := vrs_len (t := one)
    have q3 := h1.sz (Nat.le_refl _)
    simp at q1
    omega
  obtain ⟨y20, e17⟩ := S17_ok (d0 := d0) (n := n) (v := H1.length) (w := H2.length) (z := H3.length) (x2 := x2) (x6 := some (enc (lgg one two))) (x7 := some (.tupx (prD (srt (side (·.1) (lgn one two)))))) (x8 := some (.tupx (prD (srt (side (·.2) (lgn one two)))))) (x9 := some (enc (lgg (lgg one two) three))) (x10 := some (enc (lgg one (lgg two three)))) (x15 := y15) (x16 := y16) (x17 := y17) (x20 := x20) (x21 := x21) (ih := H4) (one := one) (two := two) (three := three) (vals := vals) (more := more) (r := r) (by omega) (by omega) (by omega) hv.dep hkv hvl gv4 gm4 gz4
  have a5 : TpAt (H4.set H3.length (IO.dct (encA (cmp more vals)))) n T3 := ⟨by rw [get_set_ne (by omega), a4.at_], a4.nn⟩
  have gm5 : getKvs (.obj H2.length) (H4.set H3.length (IO.dct (encA (cmp more vals)))) = some (encA more) := by
    have : (H4.set H3.length (IO.dct (encA (cmp more vals))))[H2.length]? = some (.dct (encA more)) := by rw [get_set_ne (by omega), gm4]
    rw [getKvs_obj, this]
  have gz5 : getKvs (.obj H3.length) (H4.set H3.length (IO.dct (encA (cmp more vals)))) = some (encA (cmp more vals)) := by
    have : (H4.set H3.length (IO.dct (encA (cmp more vals))))[H3.length]? = some (.dct (encA (cmp more vals))) := get_set gz4
    rw [getKvs_obj, this]
  obtain ⟨r2, hr2, e19⟩ := S19_ok (d0 := d0) (n := n) (v := H1.length) (w := H2.length) (z := H3.length) (x2 := x2) (x6 := some (enc (lgg one two))) (x7 := some (.tupx (prD (srt (side (·.1) (lgn one two)))))) (x8 := some (.tupx (prD (srt (side (·.2) (lgn one two)))))) (x9 := some (enc (lgg (lgg one two) three))) (x10 := some (enc (lgg one (lgg two three)))) (x15 := y15) (x16 := y16) (x17 := y17) (x20 := y20) (x21 := x21) (ih := H4.set H3.length (IO.dct (encA (cmp more vals)))) (three := three) (vals := vals) (r := r) h1 h2
  refine ⟨T3, H4.set H3.length (IO.dct (encA (cmp more vals))), some (enc one), some (enc two), some (enc three), some (enc (lgg one two)), some (.tupx (prD (srt (side (·.1) (lgn one two))))), some (.tupx (prD (srt (side (·.2) (lgn one two))))), some (enc (lgg (lgg one two) three)), some (enc (lgg one (lgg two three))), some (.obj H1.length), some (enc (sb (fn vals) one)), some (enc (mv 20 two)), some r, y15, y16, y17, some (.obj H2.length), some (.obj H3.length), y20, some r2, a5, ?_⟩
  unfold turnB
  refine (ySeq_nx e1).trans ?_
  refine (ySeq_nx (S2_ok h1 h2 h3)).trans ?_
  refine (ySeq_nx (S3_ok h1 h2 h3)).trans ?_
  refine (ySeq_nx (S4_ok h1 h2 h3)).trans ?_
  refine (ySeq_nx (S5_ok h1 h2 h3)).trans ?_
  refine (ySeq_nx (S6_ok h1 h2 h3)).trans ?_
  refine (ySeq_nx (S7_ok h1 h2 h3)).trans ?_
  refine (ySeq_nx e8).trans ?_
  refine (ySeq_nx (S9_ok h1 h2 h3 hv gk2)).trans ?_
  refine (ySeq_nx (S10_ok h1 h2 h3 hv gk2)).trans ?_
  refine (ySeq_nx (S11_ok h1 h2 h3)).trans ?_
  refine (ySeq_nx (S12_ok h1 h2 h3)).trans ?_
  refine (ySeq_nx e13).trans ?_
  refine (ySeq_nx e14).trans ?_
  refine (ySeq_nx e15).trans ?_
  refine (ySeq_nx e16).trans ?_
  refine (ySeq_nx e17).trans ?_
  refine (ySeq_nx (S18_ok h1 hv hm hks gm5 gz5)).trans ?_
  refine (ySeq_nx e19).trans ?_
  exact S20_ok hr hr2
theorem law_true (ns : List Int) (hz : ns.length ≤ 63) : ∃ ih', (progs 150).1 .law [.lst (ns.map .int)] [] = some (.bl true, ih') := by
  obtain ⟨T, n0, e0⟩ := tape_ok (m := 148) (ih := []) hz
  have h0 : TpAt [.dct (kvT T)] 0 T := ⟨rfl, n0⟩
  obtain ⟨T1, H1, a3, a4, a5, a6, a7, a8, a9, a10, a11, a12, a13, a14, a15, a16, a17, a18, a19, a20, a21, t1, e1⟩ := turn_ok (d0 := .lst (ns.map .int)) h0 (some (.int 0)) none none none none none none none none none none none none none none none none none none none
  obtain ⟨T2, H2, b3, b4, b5, b6, b7, b8, b9, b10, b11, b12, b13, b14, b15, b16, b17, b18, b19, b20, b21, t2, e2⟩ := turn_ok (d0 := .lst (ns.map .int)) t1 (some (.int 1)) a3 a4 a5 a6 a7 a8 a9 a10 a11 a12 a13 a14 a15 a16 a17 a18 a19 a20 a21
  obtain ⟨T3, H3, c3, c4, c5, c6, c7, c8, c9, c10, c11, c12, c13, c14, c15, c16, c17, c18, c19, c20, c21, t3, e3⟩ := turn_ok (d0 := .lst (ns.map .int)) t2 (some (.int 2)) b3 b4 b5 b6 b7 b8 b9 b10 b11 b12 b13 b14 b15 b16 b17 b18 b19 b20 b21
  refine ⟨H3, ?_⟩
  have hb : (progs 150).1 .law = r_law (progs 149).1 (progs 149).2 := rfl
  rw [hb, law_eq]
  simp only [List.length_nil, List.nil_append] at e0
  have er : rngL 0 3 = [.int 0, .int 1, .int 2] := rfl
  rw [bodyM_ap]
  simp [e0, er, forL_cons, e1, e2, e3]
end Gh.K67
end
section
set_option Elab.async false
set_option linter.all false
set_option maxRecDepth 100000
namespace Gh.K67
open PySem PySem.Spec PyProof.Rows L2
section
variable {P : Program} {w : World} {K : PySem.W.Frag} {mg : Str → Option Value} {base : Heap} {T : List (Addr × Str)} {adr : Fn → Addr} {fdat : Fn → FuncData} {aC Pt ct : Addr} {k : Nat} {c c1 : Fn → Run}
theorem sc_is_variable : FnScope ["term"] ["term"] (defScope (top 1)) := ⟨rfl, rfl, rfl, by decide +kernel, rfl, by decide +kernel, by decide +kernel⟩
theorem ok_is_variable (W : W K mg adr fdat aC) (H : ∀ f, FnOk P w K mg base CX0 k (adr f) (fdat f) (prm f) (spM K w mg T (c f))) : FnOk P w K mg base CX0 (k + 1) (adr .is_variable) (fdat .is_variable) (prm .is_variable) (spM K w mg T (r_is_variable c c1)) := by
  refine (W.fn .is_variable).ok sc_is_variable (fun vs H Q E h => spM_len h) (fun cdv A outer s H0 vs Q E hr h => ⟨_, PSs.nox ?_, spM_body (N := ["term"]) h⟩)
  exact (sb_one (ss_ret (se_isInt (by rfl) W.n_isinstance (by rfl) W.n_int (se_var (pv 0)))))
theorem sc_term_size : FnScope ["term", "part"] ["term"] (defScope (top 2)) := ⟨rfl, rfl, rfl, by decide +kernel, rfl, by decide +kernel, by decide +kernel⟩
theorem ok_term_size (W : W K mg adr fdat aC) (H : ∀ f, FnOk P w K mg base CX0 k (adr f) (fdat f) (prm f) (spM K w mg T (c f))) : FnOk P w K mg base CX0 (k + 1) (adr .term_size) (fdat .term_size) (prm .term_size) (spM K w mg T (r_term_size c c1)) := by
  refine (W.fn .term_size).ok sc_term_size (fun vs H Q E h => spM_len h) (fun cdv A outer s H0 vs Q E hr h => ⟨_, PSs.nox ?_, spM_body (N := ["term", "part"]) h⟩)
  exact (sb_cons (ss_if (st_val (se_call (H .is_variable) hr (by rfl) W.g_is_variable (W.fn .is_variable).kp (binds W .is_variable) (sa_cons (se_var (pv 0)) sa_nil))) (sb_one (ss_ret se_int)) sb_nil)
    (sb_one (ss_ret (se_add se_int (se_sum rfl (by rfl) W.n_sum (sa_cons (se_compL (own := [("part", 1)]) rfl sc_term_size.nd (si_any (se_sl (se_var (pv 0)) (so_some se_int) so_none)) (blkOk_by (N := ["term", "part"]) (sc := defScope (top 2)) (by decide +kernel)) (fun s H0 C cl fp => (wg_name sc_term_size.nd rfl (.inl rfl) (by decide))) (fun s H0 C cl fp => sts_nil) (fun p env it => (loop_lastL rfl rfl)) (fun p s H0 C cl fp => by exact kb_L rfl (se_call (H .term_size) hr (by rfl) W.g_term_size (W.fn .term_size).kp (binds W .term_size) (sa_cons (se_var (pv 1)) sa_nil)) p)) sa_nil))))))
theorem sc_variables_of : FnScope ["term", "found", "waiting", "now"] ["term"] (defScope (top 3)) := ⟨rfl, rfl, rfl, by decide +kernel, rfl, by decide +kernel, by decide +kernel⟩
theorem ok_variables_of (W : W K mg adr fdat aC) (H : ∀ f, FnOk P w K mg base CX0 k (adr f) (fdat f) (prm f) (spM K w mg T (c f))) : FnOk P w K mg base CX0 (k + 1) (adr .variables_of) (fdat .variables_of) (prm .variables_of) (spM K w mg T (r_variables_of c c1)) := by
  refine FnOk.pure ((W.fn .variables_of).ok sc_variables_of (fun vs H Q E h => spM_len h) (fun cdv A outer s H0 vs Q E hr h => ⟨_, PSs.nox ?_, spM_body (N := ["term", "found", "waiting", "now"]) h⟩))
  exact (sb_cons (ss_set (i := 1) sc_variables_of.nd rfl (.inl rfl) se_dnewH)
    (sb_cons (ss_set (i := 2) sc_variables_of.nd rfl (.inl rfl) (se_lstH (sa_cons (se_var (pv 0)) sa_nil)))
    (sb_cons (ss_while PassesOwn.never (st_tru (se_var (pv 2))) (sb_cons (ss_set (i := 3) sc_variables_of.nd rfl (.inl rfl) (se_pop (se_var (pv 2))))
    (sb_one (ss_if (st_val (se_call (H .is_variable) hr (by rfl) W.g_is_variable (W.fn .is_variable).kp (binds W .is_variable) (sa_cons (se_var (pv 3)) sa_nil))) (sb_one (ss_asg se_bl (sg_sub (se_var (pv 1)) (se_var (pv 3)) (set_dictA (hu_of hr)) w3_dict))) (sb_one (ss_expr (se_extend (se_var (pv 2)) (sa_cons (se_sl (se_var (pv 3)) (so_some se_int) so_none) sa_nil))))))))
    (sb_one (ss_ret (se_sortD rfl (by rfl) W.n_sorted (sa_cons (se_var (pv 1)) sa_nil)))))))
theorem sc_put_in : FnScope ["term", "values", "part"] ["term", "values"] (defScope (top 4)) := ⟨rfl, rfl, rfl, by decide +kernel, rfl, by decide +kernel, by decide +kernel⟩
theorem ok_put_in (W : W K mg adr fdat aC) (H : ∀ f, FnOk P w K mg base CX0 k (adr f) (fdat f) (prm f) (spM K w mg T (c f))) : FnOk P w K mg base CX0 (k + 1) (adr .put_in) (fdat .put_in) (prm .put_in) (spM K w mg T (r_put_in c c1)) := by
  refine (W.fn .put_in).ok sc_put_in (fun vs H Q E h => spM_len h) (fun cdv A outer s H0 vs Q E hr h => ⟨_, PSs.nox ?_, spM_body (N := ["term", "values", "part"]) h⟩)
  exact (sb_cons (ss_if (st_val (se_call (H .is_variable) hr (by rfl) W.g_is_variable (W.fn .is_variable).kp (binds W .is_variable) (sa_cons (se_var (pv 0)) sa_nil))) (sb_one (ss_ret (se_get (hu_of hr) (se_var (pv 1)) (sa_cons (se_var (pv 0)) (sa_cons (se_var (pv 0)) sa_nil))))) sb_nil)
    (sb_one (ss_ret (se_add (se_tup (sa_cons (se_ix (hu_of hr) (se_var (pv 0)) se_int (fun _ _ => by rfl)) sa_nil)) (se_tuple (by rfl) W.n_tuple (sa_cons (se_compL (own := [("part", 2)]) rfl sc_put_in.nd (si_any (se_sl (se_var (pv 0)) (so_some se_int) so_none)) (blkOk_by (N := ["term", "values", "part"]) (sc := defScope (top 4)) (by decide +kernel)) (fun s H0 C cl fp => (wg_name sc_put_in.nd rfl (.inl rfl) (by decide))) (fun s H0 C cl fp => sts_nil) (fun p env it => (loop_lastL rfl rfl)) (fun p s H0 C cl fp => by exact kb_L rfl (se_call (H .put_in) hr (by rfl) W.g_put_in (W.fn .put_in).kp (binds W .put_in) (sa_cons (se_var (pv 2)) (sa_cons (se_var (pv 1)) sa_nil))) p)) sa_nil))))))
def TT (Pt : Addr) : List (Addr × Str) := [(Pt, (("pairs_of" : Str) ++ ".<locals>.") ++ "<lambda>")]
theorem sc_pairs_of : FnScope ["values"] ["values"] (defScope (top 5)) := ⟨rfl, rfl, rfl, by decide +kernel, rfl, by decide +kernel, by decide +kernel⟩
theorem ok_pairs_of (W : W K mg adr fdat aC) (H : ∀ f, FnOk P w K mg base CX0 k (adr f) (fdat f) (prm f) (spM K w mg (TT Pt) (c f))) (hcd : (fdat .pairs_of).code = .ref ct) (TB : ∀ p ∈ [(ct, Pt)], LamX.TabB base mg p.1 p.2) : FnOk P w K mg base CX0 (k + 1) (adr .pairs_of) (fdat .pairs_of) (prm .pairs_of) (spM K w mg (TT Pt) (r_pairs_of c c1)) := by
  refine okC (W.fn .pairs_of) hcd sc_pairs_of (fun vs H Q E h => spM_len h) (fun A outer s H0 vs Q E hr h => ⟨_, PSs.nox ?_, spM_body (N := ["values"]) h⟩)
  have hcode : (cxOf CX0 P w K mg base ["values"] "pairs_of" (defScope (top 5)) (adr .pairs_of) (.ref ct) A outer s H0 E).nox.env.code = .ref ct := rfl
  exact (sb_one (ss_ret (se_tupleX (by rfl) W.n_tuple (sa_cons (se_sortK rfl (hu_of hr) hr.depth (by rfl) W.n_sorted (se_var (pv 0)) (TB _ (List.mem_singleton.mpr rfl)) hcode (List.mem_singleton.mpr rfl) (fun p hp e => by rw [List.mem_singleton.mp hp] <;> rfl) (by exact ⟨rfl, rfl, rfl, by decide +kernel, by decide +kernel, rfl⟩) (by decide) rfl (fun _ _ _ _ _ _ => rfl)) sa_nil))))
theorem sc_matched : FnScope ["pattern", "term", "values", "one", "other"] ["pattern", "term", "values"] (defScope (top 6)) := ⟨rfl, rfl, rfl, by decide +kernel, rfl, by decide +kernel, by decide +kernel⟩
theorem ok_matched (W : W K mg adr fdat aC) (H : ∀ f, FnOk P w K mg base CX0 k (adr f) (fdat f) (prm f) (spM K w mg T (c f))) : FnOk P w K mg base CX0 (k + 1) (adr .matched) (fdat .matched) (prm .matched) (spM K w mg T (r_matched c c1)) := by
  refine (W.fn .matched).ok sc_matched (fun vs H Q E h => spM_len h) (fun cdv A outer s H0 vs Q E hr h => ⟨_, PSs.nox ?_, spM_body (N := ["pattern", "term", "values", "one", "other"]) h⟩)
  exact (sb_cons (ss_if (st_val (se_call (H .is_variable) hr (by rfl) W.g_is_variable (W.fn .is_variable).kp (binds W .is_variable) (sa_cons (se_var (pv 0)) sa_nil))) (sb_cons (ss_if (st_cmp v2_inD (op_inD (hu_of hr)) (se_var (pv 0)) (se_var (pv 2)) (by rfl)) (sb_one (ss_ret (se_eq (hu_of hr) (se_ix (hu_of hr) (se_var (pv 2)) (se_var (pv 0)) (fun _ _ => by rfl)) (se_var (pv 1))))) sb_nil)
    (sb_cons (ss_asg (se_var (pv 1)) (sg_sub (se_var (pv 2)) (se_var (pv 0)) (set_dictA (hu_of hr)) w3_dict))
    (sb_one (ss_ret se_bl)))) sb_nil)
    (sb_cons (ss_if (st_w (sw_or (st_val (se_call (H .is_variable) hr (by rfl) W.g_is_variable (W.fn .is_variable).kp (binds W .is_variable) (sa_cons (se_var (pv 1)) sa_nil))) (sw_or (st_ne (hu_of hr) (se_ix (hu_of hr) (se_var (pv 0)) se_int (fun _ _ => by rfl)) (se_ix (hu_of hr) (se_var (pv 1)) se_int (fun _ _ => by rfl))) (sw_or1 (st_ne (hu_of hr) (se_len (by rfl) W.n_len (sa_cons (se_var (pv 0)) sa_nil)) (se_len (by rfl) W.n_len (sa_cons (se_var (pv 1)) sa_nil))))))) (sb_one (ss_ret se_bl)) sb_nil)
    (sb_one (ss_ret (se_all rfl (by rfl) W.n_all (sa_cons (se_compL (own := [("one", 3), ("other", 4)]) rfl sc_matched.nd (si_zip (by rfl) W.n_zip (sa_cons (se_sl (se_var (pv 0)) (so_some se_int) so_none) (sa_cons (se_sl (se_var (pv 1)) (so_some se_int) so_none) sa_nil))) (blkOk_by (N := ["pattern", "term", "values", "one", "other"]) (sc := defScope (top 6)) (by decide +kernel)) (fun s H0 C cl fp => (wg_tup rfl (wgs_cons (wg_name sc_matched.nd rfl (.inl rfl) (by decide)) (wgs_cons (wg_name sc_matched.nd rfl (.inl rfl) (by decide)) wgs_nil)))) (fun s H0 C cl fp => sts_nil) (fun p env it => (loop_lastL rfl rfl)) (fun p s H0 C cl fp => by exact kb_L rfl (se_call (H .matched) hr (by rfl) W.g_matched (W.fn .matched).kp (binds W .matched) (sa_cons (se_var (pv 3)) (sa_cons (se_var (pv 4)) (sa_cons (se_var (pv 2)) sa_nil)))) p)) sa_nil))))))
theorem sc_match_ : FnScope ["pattern", "term", "values"] ["pattern", "term"] (defScope (top 7)) := ⟨rfl, rfl, rfl, by decide +kernel, rfl, by decide +kernel, by decide +kernel⟩
theorem ok_match_ (W : W K mg adr fdat aC) (H : ∀ f, FnOk P w K mg base CX0 k (adr f) (fdat f) (prm f) (spM K w mg T (c f))) : FnOk P w K mg base CX0 (k + 1) (adr .match_) (fdat .match_) (prm .match_) (spM K w mg T (r_match_ c c1)) := by
  refine FnOk.pure ((W.fn .match_).ok sc_match_ (fun vs H Q E h => spM_len h) (fun cdv A outer s H0 vs Q E hr h => ⟨_, PSs.nox ?_, spM_body (N := ["pattern", "term", "values"]) h⟩))
  exact (sb_cons (ss_set (i := 2) sc_match_.nd rfl (.inl rfl) se_dnewH)
    (sb_one (ss_ret (se_if (st_val (se_call (H .matched) hr (by rfl) W.g_matched (W.fn .matched).kp (binds W .matched) (sa_cons (se_var (pv 0)) (sa_cons (se_var (pv 1)) (sa_cons (se_var (pv 2)) sa_nil))))) (se_call (H .pairs_of) hr (by rfl) W.g_pairs_of (W.fn .pairs_of).kp (binds W .pairs_of) (sa_cons (se_var (pv 2)) sa_nil)) se_non))))
theorem sc_tidy_term : FnScope ["term", "numbers", "waiting", "now"] ["term"] (defScope (top 8)) := ⟨rfl, rfl, rfl, by decide +kernel, rfl, by decide +kernel, by decide +kernel⟩
theorem ok_tidy_term (W : W K mg adr fdat aC) (H : ∀ f, FnOk P w K mg base CX0 k (adr f) (fdat f) (prm f) (spM K w mg T (c f))) : FnOk P w K mg base CX0 (k + 1) (adr .tidy_term) (fdat .tidy_term) (prm .tidy_term) (spM K w mg T (r_tidy_term c c1)) := by
  refine FnOk.pure ((W.fn .tidy_term).ok sc_tidy_term (fun vs H Q E h => spM_len h) (fun cdv A outer s H0 vs Q E hr h => ⟨_, PSs.nox ?_, spM_body (N := ["term", "numbers", "waiting", "now"]) h⟩))
  exact (sb_cons (ss_set (i := 1) sc_tidy_term.nd rfl (.inl rfl) se_dnewH)
    (sb_cons (ss_set (i := 2) sc_tidy_term.nd rfl (.inl rfl) (se_lstH (sa_cons (se_var (pv 0)) sa_nil)))
    (sb_cons (ss_while PassesOwn.never (st_tru (se_var (pv 2))) (sb_cons (ss_set (i := 3) sc_tidy_term.nd rfl (.inl rfl) (se_pop (se_var (pv 2))))
    (sb_one (ss_if (st_val (se_call (H .is_variable) hr (by rfl) W.g_is_variable (W.fn .is_variable).kp (binds W .is_variable) (sa_cons (se_var (pv 3)) sa_nil))) (sb_one (ss_expr (se_setd (hu_of hr) (se_var (pv 1)) (sa_cons (se_var (pv 3)) (sa_cons (se_len (by rfl) W.n_len (sa_cons (se_var (pv 1)) sa_nil)) sa_nil))))) (sb_one (ss_expr (se_extend (se_var (pv 2)) (sa_cons (se_rev (se_sl (se_var (pv 3)) (so_some se_int) so_none)) sa_nil))))))))
    (sb_one (ss_ret (se_call (H .put_in) hr (by rfl) W.g_put_in (W.fn .put_in).kp (binds W .put_in) (sa_cons (se_var (pv 0)) (sa_cons (se_var (pv 1)) sa_nil))))))))
theorem sc_is_variant : FnScope ["first", "second"] ["first", "second"] (defScope (top 9)) := ⟨rfl, rfl, rfl, by decide +kernel, rfl, by decide +kernel, by decide +kernel⟩
theorem ok_is_variant (W : W K mg adr fdat aC) (H : ∀ f, FnOk P w K mg base CX0 k (adr f) (fdat f) (prm f) (spM K w mg T (c f))) : FnOk P w K mg base CX0 (k + 1) (adr .is_variant) (fdat .is_variant) (prm .is_variant) (spM K w mg T (r_is_variant c c1)) := by
  refine FnOk.pure ((W.fn .is_variant).ok sc_is_variant (fun vs H Q E h => spM_len h) (fun cdv A outer s H0 vs Q E hr h => ⟨_, PSs.nox ?_, spM_body (N := ["first", "second"]) h⟩))
  exact (sb_one (ss_ret (se_eq (hu_of hr) (se_call (H .tidy_term) hr (by rfl) W.g_tidy_term (W.fn .tidy_term).kp (binds W .tidy_term) (sa_cons (se_var (pv 0)) sa_nil)) (se_call (H .tidy_term) hr (by rfl) W.g_tidy_term (W.fn .tidy_term).kp (binds W .tidy_term) (sa_cons (se_var (pv 1)) sa_nil)))))
theorem sc_generalized : FnScope ["first", "second", "numbers", "term", "left", "right", "pair", "number"] ["first", "second"] (defScope (top 10)) := ⟨rfl, rfl, rfl, by decide +kernel, rfl, by decide +kernel, by decide +kernel⟩
theorem ok_generalized (W : W K mg adr fdat aC) (H : ∀ f, FnOk P w K mg base CX0 k (adr f) (fdat f) (prm f) (spM K w mg T (c f))) : FnOk P w K mg base CX0 (k + 1) (adr .generalized) (fdat .generalized) (prm .generalized) (spM K w mg T (r_generalized c c1)) := by
  refine FnOk.pure ((W.fn .generalized).ok sc_generalized (fun vs H Q E h => spM_len h) (fun cdv A outer s H0 vs Q E hr h => ⟨_, PSs.nox ?_, spM_body (N := ["first", "second", "numbers", "term", "left", "right", "pair", "number"]) h⟩))
  exact (sb_cons (ss_set (i := 2) sc_generalized.nd rfl (.inl rfl) se_dnewH)
    (sb_cons (ss_set (i := 3) sc_generalized.nd rfl (.inl rfl) (se_call (H .joint_term) hr (by rfl) W.g_joint_term (W.fn .joint_term).kp (binds W .joint_term) (sa_cons (se_var (pv 0)) (sa_cons (se_var (pv 1)) (sa_cons (se_var (pv 2)) sa_nil)))))
    (sb_cons (ss_lock 2 (ss_setCD (own := [("pair", 6), ("number", 7)]) (i := 4) rfl sc_generalized.nd rfl rfl (by rfl) (si_items (se_var (pv 2))) (blkOk_by (N := ["first", "second", "numbers", "term", "left", "right", "pair", "number"]) (sc := defScope (top 10)) (by decide +kernel)) (fun s H0 C cl fp => (wg_tup rfl (wgs_cons (wg_name sc_generalized.nd rfl (.inl rfl) (by decide)) (wgs_cons (wg_name sc_generalized.nd rfl (.inl rfl) (by decide)) wgs_nil)))) (fun s H0 C cl fp => sts_nil) (fun p env it => (loop_lastD rfl rfl)) (fun p s H0 C cl fp => by exact kb_D (hu_of hr) rfl (se_var (pv 7)) (se_ix (hu_of hr) (se_var (pv 6)) se_int (fun _ _ => by rfl)) p)))
    (sb_cons (ss_lock 2 (ss_setCD (own := [("pair", 6), ("number", 7)]) (i := 5) rfl sc_generalized.nd rfl rfl (by rfl) (si_items (se_var (pv 2))) (blkOk_by (N := ["first", "second", "numbers", "term", "left", "right", "pair", "number"]) (sc := defScope (top 10)) (by decide +kernel)) (fun s H0 C cl fp => (wg_tup rfl (wgs_cons (wg_name sc_generalized.nd rfl (.inl rfl) (by decide)) (wgs_cons (wg_name sc_generalized.nd rfl (.inl rfl) (by decide)) wgs_nil)))) (fun s H0 C cl fp => sts_nil) (fun p env it => (loop_lastD rfl rfl)) (fun p s H0 C cl fp => by exact kb_D (hu_of hr) rfl (se_var (pv 7)) (se_ix (hu_of hr) (se_var (pv 6)) se_int (fun _ _ => by rfl)) p)))
    (sb_one (ss_ret (se_tup (sa_cons (se_var (pv 3)) (sa_cons (se_call (H .pairs_of) hr (by rfl) W.g_pairs_of (W.fn .pairs_of).kp (binds W .pairs_of) (sa_cons (se_var (pv 4)) sa_nil)) (sa_cons (se_call (H .pairs_of) hr (by rfl) W.g_pairs_of (W.fn .pairs_of).kp (binds W .pairs_of) (sa_cons (se_var (pv 5)) sa_nil)) sa_nil))))))))))
theorem sc_joint_term : FnScope ["first", "second", "numbers", "alike", "one", "other"] ["first", "second", "numbers"] (defScope (top 11)) := ⟨rfl, rfl, rfl, by decide +kernel, rfl, by decide +kernel, by decide +kernel⟩
theorem ok_joint_term (W : W K mg adr fdat aC) (H : ∀ f, FnOk P w K mg base CX0 k (adr f) (fdat f) (prm f) (spM K w mg T (c f))) : FnOk P w K mg base CX0 (k + 1) (adr .joint_term) (fdat .joint_term) (prm .joint_term) (spM K w mg T (r_joint_term c c1)) := by
  refine (W.fn .joint_term).ok sc_joint_term (fun vs H Q E h => spM_len h) (fun cdv A outer s H0 vs Q E hr h => ⟨_, PSs.nox ?_, spM_body (N := ["first", "second", "numbers", "alike", "one", "other"]) h⟩)
  exact (sb_cons (ss_set (i := 3) sc_joint_term.nd rfl (.inl rfl) (se_and (se_not (se_call (H .is_variable) hr (by rfl) W.g_is_variable (W.fn .is_variable).kp (binds W .is_variable) (sa_cons (se_var (pv 0)) sa_nil))) (se_one (se_not (se_call (H .is_variable) hr (by rfl) W.g_is_variable (W.fn .is_variable).kp (binds W .is_variable) (sa_cons (se_var (pv 1)) sa_nil))))))
    (sb_cons (ss_if (st_w (sw_and (st_tru (se_var (pv 3))) (sw_and (st_eq (hu_of hr) (se_ix (hu_of hr) (se_var (pv 0)) se_int (fun _ _ => by rfl)) (se_ix (hu_of hr) (se_var (pv 1)) se_int (fun _ _ => by rfl))) (sw_and1 (st_eq (hu_of hr) (se_len (by rfl) W.n_len (sa_cons (se_var (pv 0)) sa_nil)) (se_len (by rfl) W.n_len (sa_cons (se_var (pv 1)) sa_nil))))))) (sb_one (ss_ret (se_add (se_tup (sa_cons (se_ix (hu_of hr) (se_var (pv 0)) se_int (fun _ _ => by rfl)) sa_nil)) (se_tuple (by rfl) W.n_tuple (sa_cons (se_compL (own := [("one", 4), ("other", 5)]) rfl sc_joint_term.nd (si_zip (by rfl) W.n_zip (sa_cons (se_sl (se_var (pv 0)) (so_some se_int) so_none) (sa_cons (se_sl (se_var (pv 1)) (so_some se_int) so_none) sa_nil))) (blkOk_by (N := ["first", "second", "numbers", "alike", "one", "other"]) (sc := defScope (top 11)) (by decide +kernel)) (fun s H0 C cl fp => (wg_tup rfl (wgs_cons (wg_name sc_joint_term.nd rfl (.inl rfl) (by decide)) (wgs_cons (wg_name sc_joint_term.nd rfl (.inl rfl) (by decide)) wgs_nil)))) (fun s H0 C cl fp => sts_nil) (fun p env it => (loop_lastL rfl rfl)) (fun p s H0 C cl fp => by exact kb_L rfl (se_call (H .joint_term) hr (by rfl) W.g_joint_term (W.fn .joint_term).kp (binds W .joint_term) (sa_cons (se_var (pv 4)) (sa_cons (se_var (pv 5)) (sa_cons (se_var (pv 2)) sa_nil)))) p)) sa_nil))))) sb_nil)
    (sb_one (ss_ret (se_setd (hu_of hr) (se_var (pv 2)) (sa_cons (se_tup (sa_cons (se_var (pv 0)) (sa_cons (se_var (pv 1)) sa_nil))) (sa_cons (se_len (by rfl) W.n_len (sa_cons (se_var (pv 2)) sa_nil)) sa_nil)))))))
end
end Gh.K67
end
section
set_option Elab.async false
set_option linter.all false
set_option maxRecDepth 100000
namespace Gh.K67
open PySem PySem.Spec PyProof.Rows L2
section
variable {P : Program} {w : World} {K : PySem.W.Frag} {mg : Str → Option Value} {base : Heap} {T : List (Addr × Str)} {adr : Fn → Addr} {fdat : Fn → FuncData} {aC Pt ct : Addr} {k : Nat} {c c1 : Fn → Run}
theorem sc_Closure_init : FnScope ["self", "pairs", "index", "first", "second", "at"] ["self", "pairs"] (defScope (meth 13 0)) := ⟨rfl, rfl, rfl, by decide +kernel, rfl, by decide +kernel, by decide +kernel⟩
theorem ok_Closure_init (W : W K mg adr fdat aC) (H : ∀ f, FnOk P w K mg base CX0 k (adr f) (fdat f) (prm f) (spM K w mg T (c f))) : FnOk P w K mg base CX0 (k + 1) (adr .Closure_init) (fdat .Closure_init) (prm .Closure_init) (spM K w mg T (r_Closure_init c c1)) := by
  refine (W.fn .Closure_init).ok sc_Closure_init (fun vs H Q E h => spM_len h) (fun cdv A outer s H0 vs Q E hr h => ⟨_, PSs.nox ?_, spM_body (N := ["self", "pairs", "index", "first", "second", "at"]) h⟩)
  exact (sb_cons (ss_fld (W.fld_Closure_steps) (se_var (pv 0)) (se_lstH sa_nil))
    (sb_cons (ss_fld (W.fld_Closure_numbers) (se_var (pv 0)) se_dnewH)
    (sb_cons (ss_fld (W.fld_Closure_lefts) (se_var (pv 0)) se_dnewH)
    (sb_cons (ss_for PassesOwn.never rfl (si_enum (by rfl) W.n_enumerate (sa_cons (se_var (pv 1)) sa_nil)) (sg_tup rfl (sgs_cons (sg_name sc_Closure_init.nd rfl (.inl rfl)) (sgs_cons (sg_tup rfl (sgs_cons (sg_name sc_Closure_init.nd rfl (.inl rfl)) (sgs_cons (sg_name sc_Closure_init.nd rfl (.inl rfl)) sgs_nil))) sgs_nil))) (sb_one (ss_expr (se_meth (se_var (pv 0)) W.g_Closure W.cl_Closure W.m_Closure_note (H .Closure_note) hr (binds W .Closure_note) (sa_cons (se_var (pv 3)) (sa_cons (se_var (pv 4)) (sa_cons (se_tup (sa_cons se_str (sa_cons (se_var (pv 2)) sa_nil))) sa_nil)))))))
    (sb_cons (ss_set (i := 5) sc_Closure_init.nd rfl (.inl rfl) se_int)
    (sb_one (ss_while PassesOwn.never (st_ltI (se_var (pv 5)) (se_len (by rfl) W.n_len (sa_cons (se_fld (W.fld_Closure_steps) (se_var (pv 0))) sa_nil))) (sb_cons (ss_expr (se_meth (se_var (pv 0)) W.g_Closure W.cl_Closure W.m_Closure_go_on (H .Closure_go_on) hr (binds W .Closure_go_on) (sa_cons (se_var (pv 5)) sa_nil)))
    (sb_one (ss_aug (i := 5) sc_Closure_init.nd rfl (.inl rfl) se_int ip_add v2_ipAdd))))))))))
theorem sc_Closure_note : FnScope ["self", "first", "second", "why"] ["self", "first", "second", "why"] (defScope (meth 13 1)) := ⟨rfl, rfl, rfl, by decide +kernel, rfl, by decide +kernel, by decide +kernel⟩
theorem ok_Closure_note (W : W K mg adr fdat aC) (H : ∀ f, FnOk P w K mg base CX0 k (adr f) (fdat f) (prm f) (spM K w mg T (c f))) : FnOk P w K mg base CX0 (k + 1) (adr .Closure_note) (fdat .Closure_note) (prm .Closure_note) (spM K w mg T (r_Closure_note c c1)) := by
  refine (W.fn .Closure_note).ok sc_Closure_note (fun vs H Q E h => spM_len h) (fun cdv A outer s H0 vs Q E hr h => ⟨_, PSs.nox ?_, spM_body (N := ["self", "first", "second", "why"]) h⟩)
  exact (sb_one (ss_if (st_w (sw_and (st_cmp v2_notinD (op_notinD (hu_of hr)) (se_tup (sa_cons (se_var (pv 1)) (sa_cons (se_var (pv 2)) sa_nil))) (se_fld (W.fld_Closure_numbers) (se_var (pv 0))) (by rfl)) (sw_and1 (st_ne (hu_of hr) (se_var (pv 1)) (se_var (pv 2)))))) (sb_cons (ss_asg (se_len (by rfl) W.n_len (sa_cons (se_fld (W.fld_Closure_steps) (se_var (pv 0))) sa_nil)) (sg_sub (se_fld (W.fld_Closure_numbers) (se_var (pv 0))) (se_tup (sa_cons (se_var (pv 1)) (sa_cons (se_var (pv 2)) sa_nil))) (set_dictA (hu_of hr)) w3_dict))
    (sb_cons (ss_expr (se_append (se_setd (hu_of hr) (se_fld (W.fld_Closure_lefts) (se_var (pv 0))) (sa_cons (se_var (pv 1)) (sa_cons (se_lstH sa_nil) sa_nil))) (sa_cons (se_len (by rfl) W.n_len (sa_cons (se_fld (W.fld_Closure_steps) (se_var (pv 0))) sa_nil)) sa_nil)))
    (sb_one (ss_expr (se_append (se_fld (W.fld_Closure_steps) (se_var (pv 0))) (sa_cons (se_tup (sa_cons (se_var (pv 1)) (sa_cons (se_var (pv 2)) (sa_cons (se_var (pv 3)) sa_nil)))) sa_nil)))))) sb_nil))
theorem sc_Closure_go_on : FnScope ["self", "at", "first", "second", "_", "index", "other"] ["self", "at"] (defScope (meth 13 2)) := ⟨rfl, rfl, rfl, by decide +kernel, rfl, by decide +kernel, by decide +kernel⟩
theorem ok_Closure_go_on (W : W K mg adr fdat aC) (H : ∀ f, FnOk P w K mg base CX0 k (adr f) (fdat f) (prm f) (spM K w mg T (c f))) : FnOk P w K mg base CX0 (k + 1) (adr .Closure_go_on) (fdat .Closure_go_on) (prm .Closure_go_on) (spM K w mg T (r_Closure_go_on c c1)) := by
  refine (W.fn .Closure_go_on).ok sc_Closure_go_on (fun vs H Q E h => spM_len h) (fun cdv A outer s H0 vs Q E hr h => ⟨_, PSs.nox ?_, spM_body (N := ["self", "at", "first", "second", "_", "index", "other"]) h⟩)
  exact (sb_cons (ss_asg (se_ix (hu_of hr) (se_fld (W.fld_Closure_steps) (se_var (pv 0))) (se_var (pv 1)) (fun _ _ => by rfl)) (sg_tup rfl (sgs_cons (sg_name sc_Closure_go_on.nd rfl (.inl rfl)) (sgs_cons (sg_name sc_Closure_go_on.nd rfl (.inl rfl)) (sgs_cons (sg_name sc_Closure_go_on.nd rfl (.inl rfl)) sgs_nil)))))
    (sb_cons (ss_expr (se_meth (se_var (pv 0)) W.g_Closure W.cl_Closure W.m_Closure_note (H .Closure_note) hr (binds W .Closure_note) (sa_cons (se_var (pv 3)) (sa_cons (se_var (pv 2)) (sa_cons (se_tup (sa_cons se_str (sa_cons (se_var (pv 1)) sa_nil))) sa_nil)))))
    (sb_cons (ss_if (st_w (sw_and (st_not (st_val (se_call (H .is_variable) hr (by rfl) W.g_is_variable (W.fn .is_variable).kp (binds W .is_variable) (sa_cons (se_var (pv 2)) sa_nil)))) (sw_and (st_not (st_val (se_call (H .is_variable) hr (by rfl) W.g_is_variable (W.fn .is_variable).kp (binds W .is_variable) (sa_cons (se_var (pv 3)) sa_nil)))) (sw_and (st_eq (hu_of hr) (se_ix (hu_of hr) (se_var (pv 2)) se_int (fun _ _ => by rfl)) (se_ix (hu_of hr) (se_var (pv 3)) se_int (fun _ _ => by rfl))) (sw_and1 (st_eq (hu_of hr) (se_len (by rfl) W.n_len (sa_cons (se_var (pv 2)) sa_nil)) (se_len (by rfl) W.n_len (sa_cons (se_var (pv 3)) sa_nil)))))))) (sb_one (ss_for PassesOwn.never rfl (si_rng1 (by rfl) W.n_range (sa_cons (se_subI (se_len (by rfl) W.n_len (sa_cons (se_var (pv 2)) sa_nil)) se_int) sa_nil)) (sg_name sc_Closure_go_on.nd rfl (.inl rfl)) (sb_one (ss_expr (se_meth (se_var (pv 0)) W.g_Closure W.cl_Closure W.m_Closure_note (H .Closure_note) hr (binds W .Closure_note) (sa_cons (se_ix (hu_of hr) (se_var (pv 2)) (se_add se_int (se_var (pv 5))) (fun _ _ => by rfl)) (sa_cons (se_ix (hu_of hr) (se_var (pv 3)) (se_add se_int (se_var (pv 5))) (fun _ _ => by rfl)) (sa_cons (se_tup (sa_cons se_str (sa_cons (se_var (pv 1)) (sa_cons (se_var (pv 5)) sa_nil)))) sa_nil)))))))) sb_nil)
    (sb_cons (ss_for PassesOwn.never rfl (si_any (se_list (by rfl) W.n_list (sa_cons (se_get (hu_of hr) (se_fld (W.fld_Closure_lefts) (se_var (pv 0))) (sa_cons (se_var (pv 3)) (sa_cons (se_lst sa_nil) sa_nil))) sa_nil))) (sg_name sc_Closure_go_on.nd rfl (.inl rfl)) (sb_one (ss_expr (se_meth (se_var (pv 0)) W.g_Closure W.cl_Closure W.m_Closure_note (H .Closure_note) hr (binds W .Closure_note) (sa_cons (se_var (pv 2)) (sa_cons (se_ix (hu_of hr) (se_ix (hu_of hr) (se_fld (W.fld_Closure_steps) (se_var (pv 0))) (se_var (pv 6)) (fun _ _ => by rfl)) se_int (fun _ _ => by rfl)) (sa_cons (se_tup (sa_cons se_str (sa_cons (se_var (pv 1)) (sa_cons (se_var (pv 6)) sa_nil)))) sa_nil)))))))
    (sb_one (ss_for PassesOwn.never rfl (si_rng1 (by rfl) W.n_range (sa_cons (se_len (by rfl) W.n_len (sa_cons (se_fld (W.fld_Closure_steps) (se_var (pv 0))) sa_nil)) sa_nil)) (sg_name sc_Closure_go_on.nd rfl (.inl rfl)) (sb_one (ss_if (st_eq (hu_of hr) (se_ix (hu_of hr) (se_ix (hu_of hr) (se_fld (W.fld_Closure_steps) (se_var (pv 0))) (se_var (pv 6)) (fun _ _ => by rfl)) se_int (fun _ _ => by rfl)) (se_var (pv 2))) (sb_one (ss_expr (se_meth (se_var (pv 0)) W.g_Closure W.cl_Closure W.m_Closure_note (H .Closure_note) hr (binds W .Closure_note) (sa_cons (se_ix (hu_of hr) (se_ix (hu_of hr) (se_fld (W.fld_Closure_steps) (se_var (pv 0))) (se_var (pv 6)) (fun _ _ => by rfl)) se_int (fun _ _ => by rfl)) (sa_cons (se_var (pv 3)) (sa_cons (se_tup (sa_cons se_str (sa_cons (se_var (pv 6)) (sa_cons (se_var (pv 1)) sa_nil)))) sa_nil)))))) sb_nil))))))))
theorem sc_Closure_clash : FnScope ["self", "at", "first", "second", "_"] ["self"] (defScope (meth 13 3)) := ⟨rfl, rfl, rfl, by decide +kernel, rfl, by decide +kernel, by decide +kernel⟩
theorem ok_Closure_clash (W : W K mg adr fdat aC) (H : ∀ f, FnOk P w K mg base CX0 k (adr f) (fdat f) (prm f) (spM K w mg T (c f))) : FnOk P w K mg base CX0 (k + 1) (adr .Closure_clash) (fdat .Closure_clash) (prm .Closure_clash) (spM K w mg T (r_Closure_clash c c1)) := by
  refine (W.fn .Closure_clash).ok sc_Closure_clash (fun vs H Q E h => spM_len h) (fun cdv A outer s H0 vs Q E hr h => ⟨_, PSs.nox ?_, spM_body (N := ["self", "at", "first", "second", "_"]) h⟩)
  exact (sb_cons (ss_for PassesOwn.never rfl (si_enum (by rfl) W.n_enumerate (sa_cons (se_fld (W.fld_Closure_steps) (se_var (pv 0))) sa_nil)) (sg_tup rfl (sgs_cons (sg_name sc_Closure_clash.nd rfl (.inl rfl)) (sgs_cons (sg_tup rfl (sgs_cons (sg_name sc_Closure_clash.nd rfl (.inl rfl)) (sgs_cons (sg_name sc_Closure_clash.nd rfl (.inl rfl)) (sgs_cons (sg_name sc_Closure_clash.nd rfl (.inl rfl)) sgs_nil)))) sgs_nil))) (sb_one (ss_if (st_w (sw_and (st_not (st_val (se_call (H .is_variable) hr (by rfl) W.g_is_variable (W.fn .is_variable).kp (binds W .is_variable) (sa_cons (se_var (pv 2)) sa_nil)))) (sw_and1 (st_not (st_val (se_call (H .is_variable) hr (by rfl) W.g_is_variable (W.fn .is_variable).kp (binds W .is_variable) (sa_cons (se_var (pv 3)) sa_nil))))))) (sb_one (ss_if (st_w (sw_or (st_ne (hu_of hr) (se_ix (hu_of hr) (se_var (pv 2)) se_int (fun _ _ => by rfl)) (se_ix (hu_of hr) (se_var (pv 3)) se_int (fun _ _ => by rfl))) (sw_or1 (st_ne (hu_of hr) (se_len (by rfl) W.n_len (sa_cons (se_var (pv 2)) sa_nil)) (se_len (by rfl) W.n_len (sa_cons (se_var (pv 3)) sa_nil)))))) (sb_one (ss_ret (se_var (pv 1)))) sb_nil)) sb_nil)))
    (sb_one (ss_ret se_non)))
theorem sc_Closure_edges : FnScope ["self", "found", "at", "first", "second", "_", "inner"] ["self"] (defScope (meth 13 4)) := ⟨rfl, rfl, rfl, by decide +kernel, rfl, by decide +kernel, by decide +kernel⟩
theorem ok_Closure_edges (W : W K mg adr fdat aC) (H : ∀ f, FnOk P w K mg base CX0 k (adr f) (fdat f) (prm f) (spM K w mg T (c f))) : FnOk P w K mg base CX0 (k + 1) (adr .Closure_edges) (fdat .Closure_edges) (prm .Closure_edges) (spM K w mg T (r_Closure_edges c c1)) := by
  refine (W.fn .Closure_edges).ok sc_Closure_edges (fun vs H Q E h => spM_len h) (fun cdv A outer s H0 vs Q E hr h => ⟨_, PSs.nox ?_, spM_body (N := ["self", "found", "at", "first", "second", "_", "inner"]) h⟩)
  exact (sb_cons (ss_set (i := 1) sc_Closure_edges.nd rfl (.inl rfl) se_dnewH)
    (sb_cons (ss_for PassesOwn.never rfl (si_enum (by rfl) W.n_enumerate (sa_cons (se_fld (W.fld_Closure_steps) (se_var (pv 0))) sa_nil)) (sg_tup rfl (sgs_cons (sg_name sc_Closure_edges.nd rfl (.inr rfl)) (sgs_cons (sg_tup rfl (sgs_cons (sg_name sc_Closure_edges.nd rfl (.inl rfl)) (sgs_cons (sg_name sc_Closure_edges.nd rfl (.inl rfl)) (sgs_cons (sg_name sc_Closure_edges.nd rfl (.inl rfl)) sgs_nil)))) sgs_nil))) (sb_one (ss_if (st_w (sw_and (st_val (se_call (H .is_variable) hr (by rfl) W.g_is_variable (W.fn .is_variable).kp (binds W .is_variable) (sa_cons (se_var (pv 3)) sa_nil))) (sw_and1 (st_not (st_val (se_call (H .is_variable) hr (by rfl) W.g_is_variable (W.fn .is_variable).kp (binds W .is_variable) (sa_cons (se_var (pv 4)) sa_nil))))))) (sb_one (ss_expr (se_extend (se_setd (hu_of hr) (se_var (pv 1)) (sa_cons (se_var (pv 3)) (sa_cons (se_lstH sa_nil) sa_nil))) (sa_cons (se_compL (own := [("inner", 6)]) rfl sc_Closure_edges.nd (si_any (se_call (H .variables_of) hr (by rfl) W.g_variables_of (W.fn .variables_of).kp (binds W .variables_of) (sa_cons (se_var (pv 4)) sa_nil))) (blkOk_by (N := ["self", "found", "at", "first", "second", "_", "inner"]) (sc := defScope (meth 13 4)) (by decide +kernel)) (fun s H0 C cl fp => (wg_name sc_Closure_edges.nd rfl (.inl rfl) (by decide))) (fun s H0 C cl fp => sts_nil) (fun p env it => (loop_lastL rfl rfl)) (fun p s H0 C cl fp => by exact kb_L rfl (se_tup (sa_cons (se_var (pv 2)) (sa_cons (se_var (pv 6)) sa_nil))) p)) sa_nil)))) sb_nil)))
    (sb_one (ss_ret (se_var (pv 1))))))
theorem sc_Closure_circle : FnScope ["self", "edges", "start", "ways", "waiting", "here", "way", "at", "inner"] ["self"] (defScope (meth 13 5)) := ⟨rfl, rfl, rfl, by decide +kernel, rfl, by decide +kernel, by decide +kernel⟩
theorem ok_Closure_circle (W : W K mg adr fdat aC) (H : ∀ f, FnOk P w K mg base CX0 k (adr f) (fdat f) (prm f) (spM K w mg T (c f))) : FnOk P w K mg base CX0 (k + 1) (adr .Closure_circle) (fdat .Closure_circle) (prm .Closure_circle) (spM K w mg T (r_Closure_circle c c1)) := by
  refine (W.fn .Closure_circle).ok sc_Closure_circle (fun vs H Q E h => spM_len h) (fun cdv A outer s H0 vs Q E hr h => ⟨_, PSs.nox ?_, spM_body (N := ["self", "edges", "start", "ways", "waiting", "here", "way", "at", "inner"]) h⟩)
  exact (sb_cons (ss_set (i := 1) sc_Closure_circle.nd rfl (.inl rfl) (se_meth0D (se_var (pv 0)) W.g_Closure W.cl_Closure W.m_Closure_edges (H .Closure_edges) hr (binds W .Closure_edges)))
    (sb_cons (ss_for PassesOwn.never rfl (si_any (se_sortD rfl (by rfl) W.n_sorted (sa_cons (se_var (pv 1)) sa_nil))) (sg_name sc_Closure_circle.nd rfl (.inl rfl)) (sb_cons (ss_set (i := 3) sc_Closure_circle.nd rfl (.inl rfl) se_dnewH)
    (sb_cons (ss_set (i := 4) sc_Closure_circle.nd rfl (.inl rfl) (se_lstH (sa_cons (se_tup (sa_cons (se_var (pv 2)) (sa_cons (se_tup sa_nil) sa_nil))) sa_nil)))
    (sb_one (ss_while PassesOwn.never (st_tru (se_var (pv 4))) (sb_cons (ss_asg (se_popAt (se_var (pv 4)) (sa_cons se_int sa_nil)) (sg_tup rfl (sgs_cons (sg_name sc_Closure_circle.nd rfl (.inl rfl)) (sgs_cons (sg_name sc_Closure_circle.nd rfl (.inl rfl)) sgs_nil))))
    (sb_one (ss_for PassesOwn.never rfl (si_any (se_get (hu_of hr) (se_var (pv 1)) (sa_cons (se_var (pv 5)) (sa_cons (se_lst sa_nil) sa_nil)))) (sg_tup rfl (sgs_cons (sg_name sc_Closure_circle.nd rfl (.inl rfl)) (sgs_cons (sg_name sc_Closure_circle.nd rfl (.inl rfl)) sgs_nil))) (sb_cons (ss_if (st_eq (hu_of hr) (se_var (pv 8)) (se_var (pv 2))) (sb_one (ss_ret (se_add (se_var (pv 6)) (se_tup (sa_cons (se_var (pv 7)) sa_nil))))) sb_nil)
    (sb_one (ss_if (st_cmp v2_notinD (op_notinD (hu_of hr)) (se_var (pv 8)) (se_var (pv 3)) (by rfl)) (sb_cons (ss_asg se_bl (sg_sub (se_var (pv 3)) (se_var (pv 8)) (set_dictA (hu_of hr)) w3_dict))
    (sb_one (ss_expr (se_append (se_var (pv 4)) (sa_cons (se_tup (sa_cons (se_var (pv 8)) (sa_cons (se_add (se_var (pv 6)) (se_tup (sa_cons (se_var (pv 7)) sa_nil))) sa_nil))) sa_nil))))) sb_nil)))))))))))
    (sb_one (ss_ret se_non))))
theorem sc_Closure_value : FnScope ["self", "variable", "known", "told", "whole", "first", "second", "_", "term"] ["self", "variable", "known"] (defScope (meth 13 6)) := ⟨rfl, rfl, rfl, by decide +kernel, rfl, by decide +kernel, by decide +kernel⟩
theorem ok_Closure_value (W : W K mg adr fdat aC) (H : ∀ f, FnOk P w K mg base CX0 k (adr f) (fdat f) (prm f) (spM K w mg T (c f))) : FnOk P w K mg base CX0 (k + 1) (adr .Closure_value) (fdat .Closure_value) (prm .Closure_value) (spM K w mg T (r_Closure_value c c1)) := by
  refine (W.fn .Closure_value).ok sc_Closure_value (fun vs H Q E h => spM_len h) (fun cdv A outer s H0 vs Q E hr h => ⟨_, PSs.nox ?_, spM_body (N := ["self", "variable", "known", "told", "whole", "first", "second", "_", "term"]) h⟩)
  exact (sb_cons (ss_if (st_cmp v2_notinD (op_notinD (hu_of hr)) (se_var (pv 1)) (se_var (pv 2)) (by rfl)) (sb_cons (ss_setCL (own := [("first", 5), ("second", 6), ("_", 7)]) (i := 3) rfl sc_Closure_value.nd rfl rfl (by rfl) (si_any (se_fld (W.fld_Closure_steps) (se_var (pv 0)))) (blkOk_by (N := ["self", "variable", "known", "told", "whole", "first", "second", "_", "term"]) (sc := defScope (meth 13 6)) (by decide +kernel)) (fun s H0 C cl fp => (wg_tup rfl (wgs_cons (wg_name sc_Closure_value.nd rfl (.inl rfl) (by decide)) (wgs_cons (wg_name sc_Closure_value.nd rfl (.inl rfl) (by decide)) (wgs_cons (wg_name sc_Closure_value.nd rfl (.inl rfl) (by decide)) wgs_nil))))) (fun s H0 C cl fp => (sts_one (st_eq (hu_of hr) (se_var (pv 5)) (se_var (pv 1))))) (fun p env it => (loop_lastL rfl rfl)) (fun p s H0 C cl fp => by exact kb_L rfl (se_var (pv 6)) p))
    (sb_cons (ss_setCL (own := [("term", 8)]) (i := 4) rfl sc_Closure_value.nd rfl rfl (by rfl) (si_any (se_var (pv 3))) (blkOk_by (N := ["self", "variable", "known", "told", "whole", "first", "second", "_", "term"]) (sc := defScope (meth 13 6)) (by decide +kernel)) (fun s H0 C cl fp => (wg_name sc_Closure_value.nd rfl (.inl rfl) (by decide))) (fun s H0 C cl fp => (sts_one (st_not (st_val (se_call (H .is_variable) hr (by rfl) W.g_is_variable (W.fn .is_variable).kp (binds W .is_variable) (sa_cons (se_var (pv 8)) sa_nil)))))) (fun p env it => (loop_lastL rfl rfl)) (fun p s H0 C cl fp => by exact kb_L rfl (se_var (pv 8)) p))
    (sb_one (ss_if (st_tru (se_var (pv 4))) (sb_one (ss_asg (se_meth (se_var (pv 0)) W.g_Closure W.cl_Closure W.m_Closure_filled (H .Closure_filled) hr (binds W .Closure_filled) (sa_cons (se_ix (hu_of hr) (se_var (pv 4)) se_int (fun _ _ => by rfl)) (sa_cons (se_var (pv 2)) sa_nil))) (sg_sub (se_var (pv 2)) (se_var (pv 1)) (set_dictA (hu_of hr)) w3_dict))) (sb_one (ss_asg (se_minL rfl (by rfl) W.n_min (sa_cons (se_add (se_lst (sa_cons (se_var (pv 1)) sa_nil)) (se_var (pv 3))) sa_nil)) (sg_sub (se_var (pv 2)) (se_var (pv 1)) (set_dictA (hu_of hr)) w3_dict))))))) sb_nil)
    (sb_one (ss_ret (se_ix (hu_of hr) (se_var (pv 2)) (se_var (pv 1)) (fun _ _ => by rfl)))))
theorem sc_Closure_filled : FnScope ["self", "term", "known", "part"] ["self", "term", "known"] (defScope (meth 13 7)) := ⟨rfl, rfl, rfl, by decide +kernel, rfl, by decide +kernel, by decide +kernel⟩
theorem ok_Closure_filled (W : W K mg adr fdat aC) (H : ∀ f, FnOk P w K mg base CX0 k (adr f) (fdat f) (prm f) (spM K w mg T (c f))) : FnOk P w K mg base CX0 (k + 1) (adr .Closure_filled) (fdat .Closure_filled) (prm .Closure_filled) (spM K w mg T (r_Closure_filled c c1)) := by
  refine (W.fn .Closure_filled).ok sc_Closure_filled (fun vs H Q E h => spM_len h) (fun cdv A outer s H0 vs Q E hr h => ⟨_, PSs.nox ?_, spM_body (N := ["self", "term", "known", "part"]) h⟩)
  exact (sb_cons (ss_if (st_val (se_call (H .is_variable) hr (by rfl) W.g_is_variable (W.fn .is_variable).kp (binds W .is_variable) (sa_cons (se_var (pv 1)) sa_nil))) (sb_one (ss_ret (se_meth (se_var (pv 0)) W.g_Closure W.cl_Closure W.m_Closure_value (H .Closure_value) hr (binds W .Closure_value) (sa_cons (se_var (pv 1)) (sa_cons (se_var (pv 2)) sa_nil))))) sb_nil)
    (sb_one (ss_ret (se_add (se_tup (sa_cons (se_ix (hu_of hr) (se_var (pv 1)) se_int (fun _ _ => by rfl)) sa_nil)) (se_tuple (by rfl) W.n_tuple (sa_cons (se_compL (own := [("part", 3)]) rfl sc_Closure_filled.nd (si_any (se_sl (se_var (pv 1)) (so_some se_int) so_none)) (blkOk_by (N := ["self", "term", "known", "part"]) (sc := defScope (meth 13 7)) (by decide +kernel)) (fun s H0 C cl fp => (wg_name sc_Closure_filled.nd rfl (.inl rfl) (by decide))) (fun s H0 C cl fp => sts_nil) (fun p env it => (loop_lastL rfl rfl)) (fun p s H0 C cl fp => by exact kb_L rfl (se_meth (se_var (pv 0)) W.g_Closure W.cl_Closure W.m_Closure_filled (H .Closure_filled) hr (binds W .Closure_filled) (sa_cons (se_var (pv 3)) (sa_cons (se_var (pv 2)) sa_nil))) p)) sa_nil))))))
end
end Gh.K67
end
section
set_option Elab.async false
set_option linter.all false
set_option maxRecDepth 100000
namespace Gh.K67
open PySem PySem.Spec PyProof.Rows L2
section
variable {P : Program} {w : World} {K : PySem.W.Frag} {mg : Str → Option Value} {base : Heap} {T : List (Addr × Str)} {adr : Fn → Addr} {fdat : Fn → FuncData} {aC Pt ct : Addr} {k : Nat} {c c1 : Fn → Run}
theorem sc_cut_steps : FnScope ["steps", "last", "needed", "waiting", "at", "why", "order", "numbers", "number"] ["steps", "last"] (defScope (top 14)) := ⟨rfl, rfl, rfl, by decide +kernel, rfl, by decide +kernel, by decide +kernel⟩
theorem ok_cut_steps (W : W K mg adr fdat aC) (H : ∀ f, FnOk P w K mg base CX0 k (adr f) (fdat f) (prm f) (spM K w mg T (c f))) : FnOk P w K mg base CX0 (k + 1) (adr .cut_steps) (fdat .cut_steps) (prm .cut_steps) (spM K w mg T (r_cut_steps c c1)) := by
  refine FnOk.pure ((W.fn .cut_steps).ok sc_cut_steps (fun vs H Q E h => spM_len h) (fun cdv A outer s H0 vs Q E hr h => ⟨_, PSs.nox ?_, spM_body (N := ["steps", "last", "needed", "waiting", "at", "why", "order", "numbers", "number"]) h⟩))
  exact (sb_cons (ss_set (i := 2) sc_cut_steps.nd rfl (.inl rfl) se_dnewH)
    (sb_cons (ss_set (i := 3) sc_cut_steps.nd rfl (.inl rfl) (se_listH (by rfl) W.n_list (sa_cons (se_var (pv 1)) sa_nil)))
    (sb_cons (ss_while PassesOwn.never (st_tru (se_var (pv 3))) (sb_cons (ss_set (i := 4) sc_cut_steps.nd rfl (.inl rfl) (se_pop (se_var (pv 3))))
    (sb_one (ss_if (st_cmp v2_notinD (op_notinD (hu_of hr)) (se_var (pv 4)) (se_var (pv 2)) (by rfl)) (sb_cons (ss_asg se_bl (sg_sub (se_var (pv 2)) (se_var (pv 4)) (set_dictA (hu_of hr)) w3_dict))
    (sb_cons (ss_set (i := 5) sc_cut_steps.nd rfl (.inl rfl) (se_ix (hu_of hr) (se_ix (hu_of hr) (se_var (pv 0)) (se_var (pv 4)) (fun _ _ => by rfl)) se_int (fun _ _ => by rfl)))
    (sb_cons (ss_if (st_w (sw_or (st_eq (hu_of hr) (se_ix (hu_of hr) (se_var (pv 5)) se_int (fun _ _ => by rfl)) se_str) (sw_or1 (st_eq (hu_of hr) (se_ix (hu_of hr) (se_var (pv 5)) se_int (fun _ _ => by rfl)) se_str)))) (sb_one (ss_expr (se_append (se_var (pv 3)) (sa_cons (se_ix (hu_of hr) (se_var (pv 5)) se_int (fun _ _ => by rfl)) sa_nil)))) sb_nil)
    (sb_one (ss_if (st_eq (hu_of hr) (se_ix (hu_of hr) (se_var (pv 5)) se_int (fun _ _ => by rfl)) se_str) (sb_one (ss_expr (se_extend (se_var (pv 3)) (sa_cons (se_sl (se_var (pv 5)) (so_some se_int) so_none) sa_nil)))) sb_nil))))) sb_nil))))
    (sb_cons (ss_set (i := 6) sc_cut_steps.nd rfl (.inl rfl) (se_sortD rfl (by rfl) W.n_sorted (sa_cons (se_var (pv 2)) sa_nil)))
    (sb_cons (ss_set (i := 7) sc_cut_steps.nd rfl (.inr rfl) (se_compD (own := [("number", 8), ("at", 4)]) rfl sc_cut_steps.nd (si_enum (by rfl) W.n_enumerate (sa_cons (se_var (pv 6)) sa_nil)) (blkOk_by (N := ["steps", "last", "needed", "waiting", "at", "why", "order", "numbers", "number"]) (sc := defScope (top 14)) (by decide +kernel)) (fun s H0 C cl fp => (wg_tup rfl (wgs_cons (wg_name sc_cut_steps.nd rfl (.inl rfl) (by decide)) (wgs_cons (wg_name sc_cut_steps.nd rfl (.inl rfl) (by decide)) wgs_nil)))) (fun s H0 C cl fp => sts_nil) (fun p env it => (loop_lastD rfl rfl)) (fun p s H0 C cl fp => by exact kb_D (hu_of hr) rfl (se_var (pv 4)) (se_var (pv 8)) p)))
    (sb_one (ss_ret (se_tup (sa_cons (se_tuple (by rfl) W.n_tuple (sa_cons (se_compL (own := [("at", 4)]) rfl sc_cut_steps.nd (si_any (se_var (pv 6))) (blkOk_by (N := ["steps", "last", "needed", "waiting", "at", "why", "order", "numbers", "number"]) (sc := defScope (top 14)) (by decide +kernel)) (fun s H0 C cl fp => (wg_name sc_cut_steps.nd rfl (.inl rfl) (by decide))) (fun s H0 C cl fp => sts_nil) (fun p env it => (loop_lastL rfl rfl)) (fun p s H0 C cl fp => by exact kb_L rfl (se_call (H .renumbered) hr (by rfl) W.g_renumbered (W.fn .renumbered).kp (binds W .renumbered) (sa_cons (se_ix (hu_of hr) (se_var (pv 0)) (se_var (pv 4)) (fun _ _ => by rfl)) (sa_cons (se_var (pv 7)) sa_nil))) p)) sa_nil)) (sa_cons (se_tuple (by rfl) W.n_tuple (sa_cons (se_compL (own := [("at", 4)]) rfl sc_cut_steps.nd (si_any (se_var (pv 1))) (blkOk_by (N := ["steps", "last", "needed", "waiting", "at", "why", "order", "numbers", "number"]) (sc := defScope (top 14)) (by decide +kernel)) (fun s H0 C cl fp => (wg_name sc_cut_steps.nd rfl (.inl rfl) (by decide))) (fun s H0 C cl fp => sts_nil) (fun p env it => (loop_lastL rfl rfl)) (fun p s H0 C cl fp => by exact kb_L rfl (se_ix (hu_of hr) (se_var (pv 7)) (se_var (pv 4)) (fun _ _ => by rfl)) p)) sa_nil)) sa_nil))))))))))
theorem sc_renumbered : FnScope ["step", "numbers", "first", "second", "why"] ["step", "numbers"] (defScope (top 15)) := ⟨rfl, rfl, rfl, by decide +kernel, rfl, by decide +kernel, by decide +kernel⟩
theorem ok_renumbered (W : W K mg adr fdat aC) (H : ∀ f, FnOk P w K mg base CX0 k (adr f) (fdat f) (prm f) (spM K w mg T (c f))) : FnOk P w K mg base CX0 (k + 1) (adr .renumbered) (fdat .renumbered) (prm .renumbered) (spM K w mg T (r_renumbered c c1)) := by
  refine (W.fn .renumbered).ok sc_renumbered (fun vs H Q E h => spM_len h) (fun cdv A outer s H0 vs Q E hr h => ⟨_, PSs.nox ?_, spM_body (N := ["step", "numbers", "first", "second", "why"]) h⟩)
  exact (sb_cons (ss_asg (se_var (pv 0)) (sg_tup rfl (sgs_cons (sg_name sc_renumbered.nd rfl (.inl rfl)) (sgs_cons (sg_name sc_renumbered.nd rfl (.inl rfl)) (sgs_cons (sg_name sc_renumbered.nd rfl (.inl rfl)) sgs_nil)))))
    (sb_cons (ss_if (st_eq (hu_of hr) (se_ix (hu_of hr) (se_var (pv 4)) se_int (fun _ _ => by rfl)) se_str) (sb_one (ss_set (i := 4) sc_renumbered.nd rfl (.inl rfl) (se_tup (sa_cons se_str (sa_cons (se_ix (hu_of hr) (se_var (pv 1)) (se_ix (hu_of hr) (se_var (pv 4)) se_int (fun _ _ => by rfl)) (fun _ _ => by rfl)) sa_nil))))) (sb_one (ss_if (st_eq (hu_of hr) (se_ix (hu_of hr) (se_var (pv 4)) se_int (fun _ _ => by rfl)) se_str) (sb_one (ss_set (i := 4) sc_renumbered.nd rfl (.inl rfl) (se_tup (sa_cons se_str (sa_cons (se_ix (hu_of hr) (se_var (pv 1)) (se_ix (hu_of hr) (se_var (pv 4)) se_int (fun _ _ => by rfl)) (fun _ _ => by rfl)) (sa_cons (se_ix (hu_of hr) (se_var (pv 4)) se_int (fun _ _ => by rfl)) sa_nil)))))) (sb_one (ss_if (st_eq (hu_of hr) (se_ix (hu_of hr) (se_var (pv 4)) se_int (fun _ _ => by rfl)) se_str) (sb_one (ss_set (i := 4) sc_renumbered.nd rfl (.inl rfl) (se_tup (sa_cons se_str (sa_cons (se_ix (hu_of hr) (se_var (pv 1)) (se_ix (hu_of hr) (se_var (pv 4)) se_int (fun _ _ => by rfl)) (fun _ _ => by rfl)) (sa_cons (se_ix (hu_of hr) (se_var (pv 1)) (se_ix (hu_of hr) (se_var (pv 4)) se_int (fun _ _ => by rfl)) (fun _ _ => by rfl)) sa_nil)))))) sb_nil)))))
    (sb_one (ss_ret (se_tup (sa_cons (se_var (pv 2)) (sa_cons (se_var (pv 3)) (sa_cons (se_var (pv 4)) sa_nil))))))))
theorem sc_unify : FnScope ["pairs", "closure", "clash", "circle", "steps", "last", "known", "variables", "values", "pair", "term", "variable"] ["pairs"] (defScope (top 16)) := ⟨rfl, rfl, rfl, by decide +kernel, rfl, by decide +kernel, by decide +kernel⟩
theorem ok_unify (W : W K mg adr fdat aC) (H : ∀ f, FnOk P w K mg base CX0 k (adr f) (fdat f) (prm f) (spM K w mg T (c f))) (H1 : (∃ j, k = j + 1 ∧ FnOk P w K mg base CX0 j (adr .Closure_init) (fdat .Closure_init) (prm .Closure_init) (spM K w mg T (c1 .Closure_init))) ∨ c1 .Closure_init = fun _ _ => none) : FnOk P w K mg base CX0 (k + 1) (adr .unify) (fdat .unify) (prm .unify) (spM K w mg T (r_unify c c1)) := by
  refine FnOk.pure ((W.fn .unify).ok sc_unify (fun vs H Q E h => spM_len h) (fun cdv A outer s H0 vs Q E hr h => ⟨_, PSs.nox ?_, spM_body (N := ["pairs", "closure", "clash", "circle", "steps", "last", "known", "variables", "values", "pair", "term", "variable"]) h⟩))
  exact (sb_cons (ss_set (i := 1) sc_unify.nd rfl (.inr rfl) (mk_ok hr W.mk_Closure (by rfl) W.g_Closure (binds W .Closure_init) H1 (sa_cons (se_var (pv 0)) sa_nil)))
    (sb_cons (ss_set (i := 2) sc_unify.nd rfl (.inl rfl) (se_meth0 (se_var (pv 1)) W.g_Closure W.cl_Closure W.m_Closure_clash (H .Closure_clash) hr (binds W .Closure_clash)))
    (sb_cons (ss_if (st_notN (se_var (pv 2)) se_non) (sb_one (ss_ret (se_tup (sa_cons se_str (sa_cons (se_ix (hu_of hr) (se_call (H .cut_steps) hr (by rfl) W.g_cut_steps (W.fn .cut_steps).kp (binds W .cut_steps) (sa_cons (se_fld (W.fld_Closure_steps) (se_var (pv 1))) (sa_cons (se_lst (sa_cons (se_var (pv 2)) sa_nil)) sa_nil))) se_int (fun _ _ => by rfl)) sa_nil))))) sb_nil)
    (sb_cons (ss_set (i := 3) sc_unify.nd rfl (.inl rfl) (se_meth0 (se_var (pv 1)) W.g_Closure W.cl_Closure W.m_Closure_circle (H .Closure_circle) hr (binds W .Closure_circle)))
    (sb_cons (ss_if (st_notN (se_var (pv 3)) se_non) (sb_cons (ss_asg (se_call (H .cut_steps) hr (by rfl) W.g_cut_steps (W.fn .cut_steps).kp (binds W .cut_steps) (sa_cons (se_fld (W.fld_Closure_steps) (se_var (pv 1))) (sa_cons (se_var (pv 3)) sa_nil))) (sg_tup rfl (sgs_cons (sg_name sc_unify.nd rfl (.inl rfl)) (sgs_cons (sg_name sc_unify.nd rfl (.inl rfl)) sgs_nil))))
    (sb_one (ss_ret (se_tup (sa_cons se_str (sa_cons (se_var (pv 4)) (sa_cons (se_var (pv 5)) sa_nil))))))) sb_nil)
    (sb_cons (ss_set (i := 6) sc_unify.nd rfl (.inr rfl) se_dnewH)
    (sb_cons (ss_set (i := 7) sc_unify.nd rfl (.inl rfl) (se_sortD rfl (by rfl) W.n_sorted (sa_cons (se_compD (own := [("pair", 9), ("term", 10), ("variable", 11)]) rfl sc_unify.nd (si_any (se_var (pv 0))) (blkOk_by (N := ["pairs", "closure", "clash", "circle", "steps", "last", "known", "variables", "values", "pair", "term", "variable"]) (sc := defScope (top 16)) (by decide +kernel)) (fun s H0 C cl fp => (wg_name sc_unify.nd rfl (.inl rfl) (by decide))) (fun s H0 C cl fp => sts_nil) (fun p env it => (loop_midD rfl rfl (by intro _; rfl))) (fun p s H0 C cl fp => by exact kb_MD (vs1 := [10, 11]) rfl rfl rfl (si_any (se_var (pv 9))) (wg_name sc_unify.nd rfl (.inl rfl) (by decide)) sts_nil (by decide) (by exact kb_MD (vs1 := [11]) rfl rfl rfl (si_any (se_call (H .variables_of) hr (by rfl) W.g_variables_of (W.fn .variables_of).kp (binds W .variables_of) (sa_cons (se_var (pv 10)) sa_nil))) (wg_name sc_unify.nd rfl (.inl rfl) (by decide)) sts_nil (by decide) (by exact kb_D (hu_of hr) rfl (se_var (pv 11)) se_bl p) (fun it => (loop_lastD rfl rfl))) (fun it => (loop_midD rfl rfl (by intro _; rfl))))) sa_nil)))
    (sb_cons (ss_set (i := 8) sc_unify.nd rfl (.inr rfl) (se_compD (own := [("variable", 11)]) rfl sc_unify.nd (si_any (se_var (pv 7))) (blkOk_by (N := ["pairs", "closure", "clash", "circle", "steps", "last", "known", "variables", "values", "pair", "term", "variable"]) (sc := defScope (top 16)) (by decide +kernel)) (fun s H0 C cl fp => (wg_name sc_unify.nd rfl (.inl rfl) (by decide))) (fun s H0 C cl fp => sts_nil) (fun p env it => (loop_lastD rfl rfl)) (fun p s H0 C cl fp => by exact kb_D (hu_of hr) rfl (se_var (pv 11)) (se_meth (se_var (pv 1)) W.g_Closure W.cl_Closure W.m_Closure_value (H .Closure_value) hr (binds W .Closure_value) (sa_cons (se_var (pv 11)) (sa_cons (se_var (pv 6)) sa_nil))) p)))
    (sb_one (ss_ret (se_tup (sa_cons se_str (sa_cons (se_call (H .pairs_of) hr (by rfl) W.g_pairs_of (W.fn .pairs_of).kp (binds W .pairs_of) (sa_cons (se_compD (own := [("variable", 11)]) rfl sc_unify.nd (si_any (se_var (pv 8))) (blkOk_by (N := ["pairs", "closure", "clash", "circle", "steps", "last", "known", "variables", "values", "pair", "term", "variable"]) (sc := defScope (top 16)) (by decide +kernel)) (fun s H0 C cl fp => (wg_name sc_unify.nd rfl (.inl rfl) (by decide))) (fun s H0 C cl fp => (sts_one (st_ne (hu_of hr) (se_ix (hu_of hr) (se_var (pv 8)) (se_var (pv 11)) (fun _ _ => by rfl)) (se_var (pv 11))))) (fun p env it => (loop_lastD rfl rfl)) (fun p s H0 C cl fp => by exact kb_D (hu_of hr) rfl (se_var (pv 11)) (se_ix (hu_of hr) (se_var (pv 8)) (se_var (pv 11)) (fun _ _ => by rfl)) p)) sa_nil)) sa_nil)))))))))))))
theorem sc_makes_equal : FnScope ["pairs", "values", "told", "first", "second"] ["pairs", "values"] (defScope (top 17)) := ⟨rfl, rfl, rfl, by decide +kernel, rfl, by decide +kernel, by decide +kernel⟩
theorem ok_makes_equal (W : W K mg adr fdat aC) (H : ∀ f, FnOk P w K mg base CX0 k (adr f) (fdat f) (prm f) (spM K w mg T (c f))) : FnOk P w K mg base CX0 (k + 1) (adr .makes_equal) (fdat .makes_equal) (prm .makes_equal) (spM K w mg T (r_makes_equal c c1)) := by
  refine FnOk.pure ((W.fn .makes_equal).ok sc_makes_equal (fun vs H Q E h => spM_len h) (fun cdv A outer s H0 vs Q E hr h => ⟨_, PSs.nox ?_, spM_body (N := ["pairs", "values", "told", "first", "second"]) h⟩))
  exact (sb_cons (ss_set (i := 2) sc_makes_equal.nd rfl (.inr rfl) (se_dictX rfl (by rfl) W.n_dict (sa_cons (se_var (pv 1)) sa_nil)))
    (sb_one (ss_ret (se_all rfl (by rfl) W.n_all (sa_cons (se_compL (own := [("first", 3), ("second", 4)]) rfl sc_makes_equal.nd (si_any (se_var (pv 0))) (blkOk_by (N := ["pairs", "values", "told", "first", "second"]) (sc := defScope (top 17)) (by decide +kernel)) (fun s H0 C cl fp => (wg_tup rfl (wgs_cons (wg_name sc_makes_equal.nd rfl (.inl rfl) (by decide)) (wgs_cons (wg_name sc_makes_equal.nd rfl (.inl rfl) (by decide)) wgs_nil)))) (fun s H0 C cl fp => sts_nil) (fun p env it => (loop_lastL rfl rfl)) (fun p s H0 C cl fp => by exact kb_L rfl (se_eq (hu_of hr) (se_call (H .put_in) hr (by rfl) W.g_put_in (W.fn .put_in).kp (binds W .put_in) (sa_cons (se_var (pv 3)) (sa_cons (se_var (pv 2)) sa_nil))) (se_call (H .put_in) hr (by rfl) W.g_put_in (W.fn .put_in).kp (binds W .put_in) (sa_cons (se_var (pv 4)) (sa_cons (se_var (pv 2)) sa_nil)))) p)) sa_nil)))))
end
end Gh.K67
end
section
set_option Elab.async false
set_option linter.all false
set_option maxRecDepth 100000
namespace Gh.K67
open PySem PySem.Spec PyProof.Rows L2
section
variable {P : Program} {w : World} {K : PySem.W.Frag} {mg : Str → Option Value} {base : Heap} {T : List (Addr × Str)} {adr : Fn → Addr} {fdat : Fn → FuncData} {aC Pt ct : Addr} {k : Nat} {c c1 : Fn → Run}
theorem sc_law_tape : FnScope ["script", "cell", "cells", "seed"] ["script"] (defScope (top 19)) := ⟨rfl, rfl, rfl, by decide +kernel, rfl, by decide +kernel, by decide +kernel⟩
theorem ok_law_tape (W : W K mg adr fdat aC) (H : ∀ f, FnOk P w K mg base CX0 k (adr f) (fdat f) (prm f) (spM K w mg T (c f))) : FnOk P w K mg base CX0 (k + 1) (adr .law_tape) (fdat .law_tape) (prm .law_tape) (spM K w mg T (r_law_tape c c1)) := by
  refine (W.fn .law_tape).ok sc_law_tape (fun vs H Q E h => spM_len h) (fun cdv A outer s H0 vs Q E hr h => ⟨_, PSs.nox ?_, spM_body (N := ["script", "cell", "cells", "seed"]) h⟩)
  exact (sb_cons (ss_setCL (own := [("cell", 1)]) (i := 2) rfl sc_law_tape.nd rfl rfl (by rfl) (si_any (se_var (pv 0))) (blkOk_by (N := ["script", "cell", "cells", "seed"]) (sc := defScope (top 19)) (by decide +kernel)) (fun s H0 C cl fp => (wg_name sc_law_tape.nd rfl (.inl rfl) (by decide))) (fun s H0 C cl fp => sts_nil) (fun p env it => (loop_lastL rfl rfl)) (fun p s H0 C cl fp => by exact kb_L rfl (se_abs (by rfl) W.n_abs (sa_cons (se_int1 (by rfl) W.n_int (sa_cons (se_var (pv 1)) sa_nil)) sa_nil)) p))
    (sb_cons (ss_set (i := 3) sc_law_tape.nd rfl (.inl rfl) se_int)
    (sb_cons (ss_for PassesOwn.never rfl (si_any (se_var (pv 2))) (sg_name sc_law_tape.nd rfl (.inl rfl)) (sb_one (ss_set (i := 3) sc_law_tape.nd rfl (.inl rfl) (se_modI (se_int1 (by rfl) W.n_int (sa_cons (se_add (se_mulI (se_var (pv 3)) se_int) (se_var (pv 1))) sa_nil)) se_int))))
    (sb_one (ss_ret (se_disp (.cons (se_var (pv 2)) (.cons se_int (.cons se_int (.cons (se_var (pv 3)) (.cons se_int .nil)))))))))))
theorem sc_law_take : FnScope ["tape", "many", "drawn", "mixed"] ["tape", "many"] (defScope (top 20)) := ⟨rfl, rfl, rfl, by decide +kernel, rfl, by decide +kernel, by decide +kernel⟩
theorem ok_law_take (W : W K mg adr fdat aC) (H : ∀ f, FnOk P w K mg base CX0 k (adr f) (fdat f) (prm f) (spM K w mg T (c f))) : FnOk P w K mg base CX0 (k + 1) (adr .law_take) (fdat .law_take) (prm .law_take) (spM K w mg T (r_law_take c c1)) := by
  refine (W.fn .law_take).ok sc_law_take (fun vs H Q E h => spM_len h) (fun cdv A outer s H0 vs Q E hr h => ⟨_, PSs.nox ?_, spM_body (N := ["tape", "many", "drawn", "mixed"]) h⟩)
  exact (sb_cons (ss_if (st_w (sw_and (st_eq (hu_of hr) (se_ix (hu_of hr) (se_var (pv 0)) se_str (fun _ _ => by rfl)) se_int) (sw_and1 (st_ltI (se_ix (hu_of hr) (se_var (pv 0)) se_str (fun _ _ => by rfl)) (se_len (by rfl) W.n_len (sa_cons (se_ix (hu_of hr) (se_var (pv 0)) se_str (fun _ _ => by rfl)) sa_nil)))))) (sb_cons (ss_asg (se_ix (hu_of hr) (se_ix (hu_of hr) (se_var (pv 0)) se_str (fun _ _ => by rfl)) (se_ix (hu_of hr) (se_var (pv 0)) se_str (fun _ _ => by rfl)) (fun _ _ => by rfl)) (sg_sub (se_var (pv 0)) se_str (set_dictA (hu_of hr)) w3_dict))
    (sb_one (ss_asg (se_add (se_ix (hu_of hr) (se_var (pv 0)) se_str (fun _ _ => by rfl)) se_int) (sg_sub (se_var (pv 0)) se_str (set_dictA (hu_of hr)) w3_dict)))) sb_nil)
    (sb_cons (ss_if (st_gtI (se_ix (hu_of hr) (se_var (pv 0)) se_str (fun _ _ => by rfl)) se_int) (sb_cons (ss_set (i := 2) sc_law_take.nd rfl (.inl rfl) (se_modI (se_int1 (by rfl) W.n_int (sa_cons (se_ix (hu_of hr) (se_var (pv 0)) se_str (fun _ _ => by rfl)) sa_nil)) (se_var (pv 1))))
    (sb_cons (ss_asg (se_divI (se_ix (hu_of hr) (se_var (pv 0)) se_str (fun _ _ => by rfl)) (se_var (pv 1))) (sg_sub (se_var (pv 0)) se_str (set_dictA (hu_of hr)) w3_dict))
    (sb_one (ss_ret (se_var (pv 2)))))) sb_nil)
    (sb_cons (ss_asg (se_add (se_ix (hu_of hr) (se_var (pv 0)) se_str (fun _ _ => by rfl)) se_int) (sg_sub (se_var (pv 0)) se_str (set_dictA (hu_of hr)) w3_dict))
    (sb_cons (ss_set (i := 3) sc_law_take.nd rfl (.inl rfl) (se_modI (se_int1 (by rfl) W.n_int (sa_cons (se_add (se_mulI (se_ix (hu_of hr) (se_var (pv 0)) se_str (fun _ _ => by rfl)) se_int) (se_mulI (se_ix (hu_of hr) (se_var (pv 0)) se_str (fun _ _ => by rfl)) se_int)) sa_nil)) se_int))
    (sb_cons (ss_set (i := 3) sc_law_take.nd rfl (.inl rfl) (se_modI (se_int1 (by rfl) W.n_int (sa_cons (se_add (se_add (se_mulI (se_var (pv 3)) (se_var (pv 3))) (se_mulI (se_ix (hu_of hr) (se_var (pv 0)) se_str (fun _ _ => by rfl)) se_int)) se_int) sa_nil)) se_int))
    (sb_one (ss_ret (se_modI (se_int1 (by rfl) W.n_int (sa_cons (se_var (pv 3)) sa_nil)) (se_var (pv 1))))))))))
theorem sc_law_term : FnScope ["tape", "depth", "shift", "kind"] ["tape", "depth", "shift"] (defScope (top 21)) := ⟨rfl, rfl, rfl, by decide +kernel, rfl, by decide +kernel, by decide +kernel⟩
theorem ok_law_term (W : W K mg adr fdat aC) (H : ∀ f, FnOk P w K mg base CX0 k (adr f) (fdat f) (prm f) (spM K w mg T (c f))) : FnOk P w K mg base CX0 (k + 1) (adr .law_term) (fdat .law_term) (prm .law_term) (spM K w mg T (r_law_term c c1)) := by
  refine (W.fn .law_term).ok sc_law_term (fun vs H Q E h => spM_len h) (fun cdv A outer s H0 vs Q E hr h => ⟨_, PSs.nox ?_, spM_body (N := ["tape", "depth", "shift", "kind"]) h⟩)
  exact (sb_cons (ss_set (i := 3) sc_law_term.nd rfl (.inl rfl) (se_call (H .law_take) hr (by rfl) W.g_law_take (W.fn .law_take).kp (binds W .law_take) (sa_cons (se_var (pv 0)) (sa_cons se_int sa_nil))))
    (sb_cons (ss_if (st_w (sw_or (st_eq (hu_of hr) (se_var (pv 1)) se_int) (sw_or1 (st_ltI (se_var (pv 3)) se_int)))) (sb_one (ss_ret (se_ix (hu_of hr) (se_lst (sa_cons (se_tup (sa_cons se_str sa_nil)) (sa_cons (se_add (se_var (pv 2)) (se_call (H .law_take) hr (by rfl) W.g_law_take (W.fn .law_take).kp (binds W .law_take) (sa_cons (se_var (pv 0)) (sa_cons se_int sa_nil)))) sa_nil))) (se_call (H .law_take) hr (by rfl) W.g_law_take (W.fn .law_take).kp (binds W .law_take) (sa_cons (se_var (pv 0)) (sa_cons se_int sa_nil))) (fun _ _ => by rfl)))) sb_nil)
    (sb_cons (ss_if (st_eq (hu_of hr) (se_var (pv 3)) se_int) (sb_one (ss_ret (se_tup (sa_cons se_str (sa_cons (se_call (H .law_term) hr (by rfl) W.g_law_term (W.fn .law_term).kp (binds W .law_term) (sa_cons (se_var (pv 0)) (sa_cons (se_subI (se_var (pv 1)) se_int) (sa_cons (se_var (pv 2)) sa_nil)))) sa_nil))))) sb_nil)
    (sb_one (ss_ret (se_tup (sa_cons se_str (sa_cons (se_call (H .law_term) hr (by rfl) W.g_law_term (W.fn .law_term).kp (binds W .law_term) (sa_cons (se_var (pv 0)) (sa_cons (se_subI (se_var (pv 1)) se_int) (sa_cons (se_var (pv 2)) sa_nil)))) (sa_cons (se_call (H .law_term) hr (by rfl) W.g_law_term (W.fn .law_term).kp (binds W .law_term) (sa_cons (se_var (pv 0)) (sa_cons (se_subI (se_var (pv 1)) se_int) (sa_cons (se_var (pv 2)) sa_nil)))) sa_nil)))))))))
theorem sc_law_values : FnScope ["tape", "term", "found", "one"] ["tape", "term"] (defScope (top 22)) := ⟨rfl, rfl, rfl, by decide +kernel, rfl, by decide +kernel, by decide +kernel⟩
theorem ok_law_values (W : W K mg adr fdat aC) (H : ∀ f, FnOk P w K mg base CX0 k (adr f) (fdat f) (prm f) (spM K w mg T (c f))) : FnOk P w K mg base CX0 (k + 1) (adr .law_values) (fdat .law_values) (prm .law_values) (spM K w mg T (r_law_values c c1)) := by
  refine (W.fn .law_values).ok sc_law_values (fun vs H Q E h => spM_len h) (fun cdv A outer s H0 vs Q E hr h => ⟨_, PSs.nox ?_, spM_body (N := ["tape", "term", "found", "one"]) h⟩)
  exact (sb_cons (ss_set (i := 2) sc_law_values.nd rfl (.inl rfl) se_dnewH)
    (sb_cons (ss_for PassesOwn.never rfl (si_any (se_call (H .variables_of) hr (by rfl) W.g_variables_of (W.fn .variables_of).kp (binds W .variables_of) (sa_cons (se_var (pv 1)) sa_nil))) (sg_name sc_law_values.nd rfl (.inl rfl)) (sb_one (ss_asg (se_call (H .law_term) hr (by rfl) W.g_law_term (W.fn .law_term).kp (binds W .law_term) (sa_cons (se_var (pv 0)) (sa_cons se_int (sa_cons (se_mulI (se_call (H .law_take) hr (by rfl) W.g_law_take (W.fn .law_take).kp (binds W .law_take) (sa_cons (se_var (pv 0)) (sa_cons se_int sa_nil))) se_int) sa_nil)))) (sg_sub (se_var (pv 2)) (se_var (pv 3)) (set_dictA (hu_of hr)) w3_dict))))
    (sb_one (ss_ret (se_var (pv 2))))))
theorem sc_law_moved : FnScope ["term", "shift", "part"] ["term", "shift"] (defScope (top 23)) := ⟨rfl, rfl, rfl, by decide +kernel, rfl, by decide +kernel, by decide +kernel⟩
theorem ok_law_moved (W : W K mg adr fdat aC) (H : ∀ f, FnOk P w K mg base CX0 k (adr f) (fdat f) (prm f) (spM K w mg T (c f))) : FnOk P w K mg base CX0 (k + 1) (adr .law_moved) (fdat .law_moved) (prm .law_moved) (spM K w mg T (r_law_moved c c1)) := by
  refine (W.fn .law_moved).ok sc_law_moved (fun vs H Q E h => spM_len h) (fun cdv A outer s H0 vs Q E hr h => ⟨_, PSs.nox ?_, spM_body (N := ["term", "shift", "part"]) h⟩)
  exact (sb_cons (ss_if (st_val (se_isInt (by rfl) W.n_isinstance (by rfl) W.n_int (se_var (pv 0)))) (sb_one (ss_ret (se_add (se_var (pv 0)) (se_var (pv 1))))) sb_nil)
    (sb_one (ss_ret (se_add (se_tup (sa_cons (se_ix (hu_of hr) (se_var (pv 0)) se_int (fun _ _ => by rfl)) sa_nil)) (se_tuple (by rfl) W.n_tuple (sa_cons (se_compL (own := [("part", 2)]) rfl sc_law_moved.nd (si_any (se_sl (se_var (pv 0)) (so_some se_int) so_none)) (blkOk_by (N := ["term", "shift", "part"]) (sc := defScope (top 23)) (by decide +kernel)) (fun s H0 C cl fp => (wg_name sc_law_moved.nd rfl (.inl rfl) (by decide))) (fun s H0 C cl fp => sts_nil) (fun p env it => (loop_lastL rfl rfl)) (fun p s H0 C cl fp => by exact kb_L rfl (se_call (H .law_moved) hr (by rfl) W.g_law_moved (W.fn .law_moved).kp (binds W .law_moved) (sa_cons (se_var (pv 2)) (sa_cons (se_var (pv 1)) sa_nil))) p)) sa_nil))))))
theorem sc_law : FnScope ["script", "tape", "turn", "one", "two", "three", "common", "left", "right", "a", "b", "values", "lower", "other", "told", "whole", "again", "low", "more", "both", "key", "back"] ["script"] (defScope (top 24)) := ⟨rfl, rfl, rfl, by decide +kernel, rfl, by decide +kernel, by decide +kernel⟩
theorem ok_law (W : W K mg adr fdat aC) (H : ∀ f, FnOk P w K mg base CX0 k (adr f) (fdat f) (prm f) (spM K w mg T (c f))) : FnOk P w K mg base CX0 (k + 1) (adr .law) (fdat .law) (prm .law) (spM K w mg T (r_law c c1)) := by
  refine (W.fn .law).ok sc_law (fun vs H Q E h => spM_len h) (fun cdv A outer s H0 vs Q E hr h => ⟨_, PSs.nox ?_, spM_body (N := ["script", "tape", "turn", "one", "two", "three", "common", "left", "right", "a", "b", "values", "lower", "other", "told", "whole", "again", "low", "more", "both", "key", "back"]) h⟩)
  exact (sb_cons (ss_set (i := 1) sc_law.nd rfl (.inl rfl) (se_call (H .law_tape) hr (by rfl) W.g_law_tape (W.fn .law_tape).kp (binds W .law_tape) (sa_cons (se_var (pv 0)) sa_nil)))
    (sb_cons (ss_for PassesOwn.never rfl (si_rng1 (by rfl) W.n_range (sa_cons se_int sa_nil)) (sg_name sc_law.nd rfl (.inl rfl)) (sb_cons (ss_par3 (i := 3) (j := 4) (l := 5) rfl sc_law.nd rfl rfl rfl (by decide) (by decide) (by decide) rfl rfl rfl (sa_cons (se_call (H .law_term) hr (by rfl) W.g_law_term (W.fn .law_term).kp (binds W .law_term) (sa_cons (se_var (pv 1)) (sa_cons se_int (sa_cons se_int sa_nil)))) (sa_cons (se_call (H .law_term) hr (by rfl) W.g_law_term (W.fn .law_term).kp (binds W .law_term) (sa_cons (se_var (pv 1)) (sa_cons se_int (sa_cons se_int sa_nil)))) (sa_cons (se_call (H .law_term) hr (by rfl) W.g_law_term (W.fn .law_term).kp (binds W .law_term) (sa_cons (se_var (pv 1)) (sa_cons se_int (sa_cons se_int sa_nil)))) sa_nil))) (by rfl))
    (sb_cons (ss_asg (se_call (H .generalized) hr (by rfl) W.g_generalized (W.fn .generalized).kp (binds W .generalized) (sa_cons (se_var (pv 3)) (sa_cons (se_var (pv 4)) sa_nil))) (sg_tup rfl (sgs_cons (sg_name sc_law.nd rfl (.inl rfl)) (sgs_cons (sg_name sc_law.nd rfl (.inl rfl)) (sgs_cons (sg_name sc_law.nd rfl (.inl rfl)) sgs_nil)))))
    (sb_cons (ss_if (st_w (sw_or (st_ne (hu_of hr) (se_call (H .put_in) hr (by rfl) W.g_put_in (W.fn .put_in).kp (binds W .put_in) (sa_cons (se_var (pv 6)) (sa_cons (se_dictX rfl (by rfl) W.n_dict (sa_cons (se_var (pv 7)) sa_nil)) sa_nil))) (se_var (pv 3))) (sw_or (st_ne (hu_of hr) (se_call (H .put_in) hr (by rfl) W.g_put_in (W.fn .put_in).kp (binds W .put_in) (sa_cons (se_var (pv 6)) (sa_cons (se_dictX rfl (by rfl) W.n_dict (sa_cons (se_var (pv 8)) sa_nil)) sa_nil))) (se_var (pv 4))) (sw_or1 (st_w (sw_and (st_ne (hu_of hr) (se_ix (hu_of hr) (se_call (H .generalized) hr (by rfl) W.g_generalized (W.fn .generalized).kp (binds W .generalized) (sa_cons (se_var (pv 4)) (sa_cons (se_var (pv 3)) sa_nil))) se_int (fun _ _ => by rfl)) (se_var (pv 6))) (sw_and1 (st_not (st_val (se_call (H .is_variant) hr (by rfl) W.g_is_variant (W.fn .is_variant).kp (binds W .is_variant) (sa_cons (se_ix (hu_of hr) (se_call (H .generalized) hr (by rfl) W.g_generalized (W.fn .generalized).kp (binds W .generalized) (sa_cons (se_var (pv 4)) (sa_cons (se_var (pv 3)) sa_nil))) se_int (fun _ _ => by rfl)) (sa_cons (se_var (pv 6)) sa_nil)))))))))))) (sb_one (ss_ret se_bl)) sb_nil)
    (sb_cons (ss_if (st_w (sw_or (st_isN (se_call (H .match_) hr (by rfl) W.g_match_ (W.fn .match_).kp (binds W .match_) (sa_cons (se_var (pv 6)) (sa_cons (se_var (pv 3)) sa_nil))) se_non) (sw_or (st_isN (se_call (H .match_) hr (by rfl) W.g_match_ (W.fn .match_).kp (binds W .match_) (sa_cons (se_var (pv 6)) (sa_cons (se_var (pv 4)) sa_nil))) se_non) (sw_or1 (st_gtI (se_call (H .term_size) hr (by rfl) W.g_term_size (W.fn .term_size).kp (binds W .term_size) (sa_cons (se_var (pv 6)) sa_nil)) (se_min2 rfl (by rfl) W.n_min (sa_cons (se_call (H .term_size) hr (by rfl) W.g_term_size (W.fn .term_size).kp (binds W .term_size) (sa_cons (se_var (pv 3)) sa_nil)) (sa_cons (se_call (H .term_size) hr (by rfl) W.g_term_size (W.fn .term_size).kp (binds W .term_size) (sa_cons (se_var (pv 4)) sa_nil)) sa_nil)))))))) (sb_one (ss_ret se_bl)) sb_nil)
    (sb_cons (ss_set (i := 9) sc_law.nd rfl (.inl rfl) (se_ix (hu_of hr) (se_call (H .generalized) hr (by rfl) W.g_generalized (W.fn .generalized).kp (binds W .generalized) (sa_cons (se_ix (hu_of hr) (se_call (H .generalized) hr (by rfl) W.g_generalized (W.fn .generalized).kp (binds W .generalized) (sa_cons (se_var (pv 3)) (sa_cons (se_var (pv 4)) sa_nil))) se_int (fun _ _ => by rfl)) (sa_cons (se_var (pv 5)) sa_nil))) se_int (fun _ _ => by rfl)))
    (sb_cons (ss_set (i := 10) sc_law.nd rfl (.inl rfl) (se_ix (hu_of hr) (se_call (H .generalized) hr (by rfl) W.g_generalized (W.fn .generalized).kp (binds W .generalized) (sa_cons (se_var (pv 3)) (sa_cons (se_ix (hu_of hr) (se_call (H .generalized) hr (by rfl) W.g_generalized (W.fn .generalized).kp (binds W .generalized) (sa_cons (se_var (pv 4)) (sa_cons (se_var (pv 5)) sa_nil))) se_int (fun _ _ => by rfl)) sa_nil))) se_int (fun _ _ => by rfl)))
    (sb_cons (ss_if (st_w (sw_or (st_not (st_val (se_call (H .is_variant) hr (by rfl) W.g_is_variant (W.fn .is_variant).kp (binds W .is_variant) (sa_cons (se_var (pv 9)) (sa_cons (se_var (pv 10)) sa_nil))))) (sw_or (st_not (st_val (se_call (H .is_variant) hr (by rfl) W.g_is_variant (W.fn .is_variant).kp (binds W .is_variant) (sa_cons (se_ix (hu_of hr) (se_call (H .generalized) hr (by rfl) W.g_generalized (W.fn .generalized).kp (binds W .generalized) (sa_cons (se_var (pv 3)) (sa_cons (se_var (pv 3)) sa_nil))) se_int (fun _ _ => by rfl)) (sa_cons (se_var (pv 3)) sa_nil))))) (sw_or1 (st_not (st_val (se_call (H .is_variant) hr (by rfl) W.g_is_variant (W.fn .is_variant).kp (binds W .is_variant) (sa_cons (se_call (H .tidy_term) hr (by rfl) W.g_tidy_term (W.fn .tidy_term).kp (binds W .tidy_term) (sa_cons (se_var (pv 3)) sa_nil)) (sa_cons (se_var (pv 3)) sa_nil))))))))) (sb_one (ss_ret se_bl)) sb_nil)
    (sb_cons (ss_set (i := 11) sc_law.nd rfl (.inl rfl) (se_call (H .law_values) hr (by rfl) W.g_law_values (W.fn .law_values).kp (binds W .law_values) (sa_cons (se_var (pv 1)) (sa_cons (se_var (pv 3)) sa_nil))))
    (sb_cons (ss_set (i := 12) sc_law.nd rfl (.inl rfl) (se_call (H .put_in) hr (by rfl) W.g_put_in (W.fn .put_in).kp (binds W .put_in) (sa_cons (se_var (pv 3)) (sa_cons (se_var (pv 11)) sa_nil))))
    (sb_cons (ss_if (st_w (sw_or (st_isN (se_call (H .match_) hr (by rfl) W.g_match_ (W.fn .match_).kp (binds W .match_) (sa_cons (se_var (pv 3)) (sa_cons (se_var (pv 12)) sa_nil))) se_non) (sw_or (st_not (st_val (se_call (H .is_variant) hr (by rfl) W.g_is_variant (W.fn .is_variant).kp (binds W .is_variant) (sa_cons (se_ix (hu_of hr) (se_call (H .generalized) hr (by rfl) W.g_generalized (W.fn .generalized).kp (binds W .generalized) (sa_cons (se_var (pv 3)) (sa_cons (se_var (pv 12)) sa_nil))) se_int (fun _ _ => by rfl)) (sa_cons (se_var (pv 3)) sa_nil))))) (sw_or1 (st_ne (hu_of hr) (se_notN (se_call (H .match_) hr (by rfl) W.g_match_ (W.fn .match_).kp (binds W .match_) (sa_cons (se_var (pv 12)) (sa_cons (se_var (pv 3)) sa_nil))) se_non) (se_call (H .is_variant) hr (by rfl) W.g_is_variant (W.fn .is_variant).kp (binds W .is_variant) (sa_cons (se_var (pv 3)) (sa_cons (se_var (pv 12)) sa_nil)))))))) (sb_one (ss_ret se_bl)) sb_nil)
    (sb_cons (ss_if (st_w (sw_or (st_ne (hu_of hr) (se_call (H .is_variant) hr (by rfl) W.g_is_variant (W.fn .is_variant).kp (binds W .is_variant) (sa_cons (se_var (pv 3)) (sa_cons (se_var (pv 4)) sa_nil))) (se_and (se_notN (se_call (H .match_) hr (by rfl) W.g_match_ (W.fn .match_).kp (binds W .match_) (sa_cons (se_var (pv 3)) (sa_cons (se_var (pv 4)) sa_nil))) se_non) (se_one (se_notN (se_call (H .match_) hr (by rfl) W.g_match_ (W.fn .match_).kp (binds W .match_) (sa_cons (se_var (pv 4)) (sa_cons (se_var (pv 3)) sa_nil))) se_non)))) (sw_or1 (st_ne (hu_of hr) (se_eq (hu_of hr) (se_call (H .tidy_term) hr (by rfl) W.g_tidy_term (W.fn .tidy_term).kp (binds W .tidy_term) (sa_cons (se_var (pv 3)) sa_nil)) (se_call (H .tidy_term) hr (by rfl) W.g_tidy_term (W.fn .tidy_term).kp (binds W .tidy_term) (sa_cons (se_var (pv 4)) sa_nil))) (se_call (H .is_variant) hr (by rfl) W.g_is_variant (W.fn .is_variant).kp (binds W .is_variant) (sa_cons (se_var (pv 3)) (sa_cons (se_var (pv 4)) sa_nil))))))) (sb_one (ss_ret se_bl)) sb_nil)
    (sb_cons (ss_set (i := 13) sc_law.nd rfl (.inl rfl) (se_call (H .law_moved) hr (by rfl) W.g_law_moved (W.fn .law_moved).kp (binds W .law_moved) (sa_cons (se_var (pv 4)) (sa_cons se_int sa_nil))))
    (sb_cons (ss_set (i := 14) sc_law.nd rfl (.inl rfl) (se_call (H .unify) hr (by rfl) W.g_unify (W.fn .unify).kp (binds W .unify) (sa_cons (se_lst (sa_cons (se_tup (sa_cons (se_var (pv 3)) (sa_cons (se_var (pv 13)) sa_nil))) sa_nil)) sa_nil)))
    (sb_cons (ss_if (st_eq (hu_of hr) (se_ix (hu_of hr) (se_var (pv 14)) se_int (fun _ _ => by rfl)) se_str) (sb_cons (ss_set (i := 15) sc_law.nd rfl (.inl rfl) (se_call (H .put_in) hr (by rfl) W.g_put_in (W.fn .put_in).kp (binds W .put_in) (sa_cons (se_var (pv 3)) (sa_cons (se_dictX rfl (by rfl) W.n_dict (sa_cons (se_ix (hu_of hr) (se_var (pv 14)) se_int (fun _ _ => by rfl)) sa_nil)) sa_nil))))
    (sb_cons (ss_if (st_w (sw_or (st_ne (hu_of hr) (se_call (H .put_in) hr (by rfl) W.g_put_in (W.fn .put_in).kp (binds W .put_in) (sa_cons (se_var (pv 13)) (sa_cons (se_dictX rfl (by rfl) W.n_dict (sa_cons (se_ix (hu_of hr) (se_var (pv 14)) se_int (fun _ _ => by rfl)) sa_nil)) sa_nil))) (se_var (pv 15))) (sw_or (st_isN (se_call (H .match_) hr (by rfl) W.g_match_ (W.fn .match_).kp (binds W .match_) (sa_cons (se_var (pv 3)) (sa_cons (se_var (pv 15)) sa_nil))) se_non) (sw_or (st_isN (se_call (H .match_) hr (by rfl) W.g_match_ (W.fn .match_).kp (binds W .match_) (sa_cons (se_var (pv 4)) (sa_cons (se_var (pv 15)) sa_nil))) se_non) (sw_or1 (st_notB (se_call (H .makes_equal) hr (by rfl) W.g_makes_equal (W.fn .makes_equal).kp (binds W .makes_equal) (sa_cons (se_lst (sa_cons (se_tup (sa_cons (se_var (pv 3)) (sa_cons (se_var (pv 13)) sa_nil))) sa_nil)) (sa_cons (se_ix (hu_of hr) (se_var (pv 14)) se_int (fun _ _ => by rfl)) sa_nil))) se_bl)))))) (sb_one (ss_ret se_bl)) sb_nil)
    (sb_cons (ss_set (i := 16) sc_law.nd rfl (.inl rfl) (se_call (H .unify) hr (by rfl) W.g_unify (W.fn .unify).kp (binds W .unify) (sa_cons (se_lst (sa_cons (se_tup (sa_cons (se_var (pv 3)) (sa_cons (se_var (pv 13)) sa_nil))) (sa_cons (se_tup (sa_cons (se_var (pv 3)) (sa_cons (se_var (pv 15)) sa_nil))) sa_nil))) sa_nil)))
    (sb_one (ss_if (st_w (sw_or (st_ne (hu_of hr) (se_ix (hu_of hr) (se_var (pv 16)) se_int (fun _ _ => by rfl)) se_str) (sw_or1 (st_not (st_val (se_call (H .is_variant) hr (by rfl) W.g_is_variant (W.fn .is_variant).kp (binds W .is_variant) (sa_cons (se_call (H .put_in) hr (by rfl) W.g_put_in (W.fn .put_in).kp (binds W .put_in) (sa_cons (se_var (pv 3)) (sa_cons (se_dictX rfl (by rfl) W.n_dict (sa_cons (se_ix (hu_of hr) (se_var (pv 16)) se_int (fun _ _ => by rfl)) sa_nil)) sa_nil))) (sa_cons (se_var (pv 15)) sa_nil)))))))) (sb_one (ss_ret se_bl)) sb_nil))))) (sb_cons (ss_set (i := 17) sc_law.nd rfl (.inl rfl) (se_call (H .put_in) hr (by rfl) W.g_put_in (W.fn .put_in).kp (binds W .put_in) (sa_cons (se_var (pv 3)) (sa_cons (se_var (pv 11)) sa_nil))))
    (sb_one (ss_if (st_notN (se_call (H .match_) hr (by rfl) W.g_match_ (W.fn .match_).kp (binds W .match_) (sa_cons (se_var (pv 4)) (sa_cons (se_var (pv 17)) sa_nil))) se_non) (sb_one (ss_ret se_bl)) sb_nil))))
    (sb_cons (ss_set (i := 18) sc_law.nd rfl (.inl rfl) (se_call (H .law_values) hr (by rfl) W.g_law_values (W.fn .law_values).kp (binds W .law_values) (sa_cons (se_var (pv 1)) (sa_cons (se_var (pv 12)) sa_nil))))
    (sb_cons (ss_set (i := 19) sc_law.nd rfl (.inr rfl) se_dnewH)
    (sb_cons (ss_lock 11 (ss_for PassesOwn.never rfl (si_any (se_var (pv 11))) (sg_name sc_law.nd rfl (.inl rfl)) (sb_one (ss_asg (se_call (H .put_in) hr (by rfl) W.g_put_in (W.fn .put_in).kp (binds W .put_in) (sa_cons (se_ix (hu_of hr) (se_var (pv 11)) (se_var (pv 20)) (fun _ _ => by rfl)) (sa_cons (se_var (pv 18)) sa_nil))) (sg_sub (se_var (pv 19)) (se_var (pv 20)) (set_dictA (hu_of hr)) w3_dict)))))
    (sb_cons (ss_if (st_w (sw_and (st_ne (hu_of hr) (se_call (H .put_in) hr (by rfl) W.g_put_in (W.fn .put_in).kp (binds W .put_in) (sa_cons (se_var (pv 12)) (sa_cons (se_var (pv 18)) sa_nil))) (se_call (H .put_in) hr (by rfl) W.g_put_in (W.fn .put_in).kp (binds W .put_in) (sa_cons (se_var (pv 3)) (sa_cons (se_var (pv 19)) sa_nil)))) (sw_and1 (st_val (se_all rfl (by rfl) W.n_all (sa_cons (se_compL (own := [("key", 20)]) rfl sc_law.nd (si_any (se_call (H .variables_of) hr (by rfl) W.g_variables_of (W.fn .variables_of).kp (binds W .variables_of) (sa_cons (se_var (pv 3)) sa_nil))) (blkOk_by (N := ["script", "tape", "turn", "one", "two", "three", "common", "left", "right", "a", "b", "values", "lower", "other", "told", "whole", "again", "low", "more", "both", "key", "back"]) (sc := defScope (top 24)) (by decide +kernel)) (fun s H0 C cl fp => (wg_name sc_law.nd rfl (.inl rfl) (by decide))) (fun s H0 C cl fp => sts_nil) (fun p env it => (loop_lastL rfl rfl)) (fun p s H0 C cl fp => by exact kb_L rfl (se_cmp v2_inD (op_inD (hu_of hr)) (se_var (pv 20)) (se_var (pv 19)) (by rfl)) p)) sa_nil)))))) (sb_one (ss_ret se_bl)) sb_nil)
    (sb_cons (ss_set (i := 21) sc_law.nd rfl (.inl rfl) (se_call (H .unify) hr (by rfl) W.g_unify (W.fn .unify).kp (binds W .unify) (sa_cons (se_lst (sa_cons (se_tup (sa_cons (se_var (pv 13)) (sa_cons (se_var (pv 3)) sa_nil))) sa_nil)) sa_nil)))
    (sb_one (ss_if (st_w (sw_and (st_ne (hu_of hr) (se_ix (hu_of hr) (se_var (pv 21)) se_int (fun _ _ => by rfl)) (se_ix (hu_of hr) (se_var (pv 14)) se_int (fun _ _ => by rfl))) (sw_and1 (st_w (sw_or (st_eq (hu_of hr) (se_ix (hu_of hr) (se_var (pv 21)) se_int (fun _ _ => by rfl)) se_str) (sw_or1 (st_eq (hu_of hr) (se_ix (hu_of hr) (se_var (pv 14)) se_int (fun _ _ => by rfl)) se_str))))))) (sb_one (ss_ret se_bl)) sb_nil))))))))))))))))))))))
    (sb_one (ss_ret se_bl))))
end
end Gh.K67
end
section
set_option Elab.async false
set_option linter.all false
set_option maxRecDepth 100000
set_option maxHeartbeats 0
/-! k67: the head, and what is left: the law in plain words. -/
namespace Gh.K67
open PySem PySem.Spec PyProof.Rows L2
/-! ### all defs, to every depth -/
section
variable {P : Program} {w : World} {K : PySem.W.Frag} {mg : Str → Option Value} {base : Heap} {adr : Fn → Addr} {fdat : Fn → FuncData} {aC Pt ct : Addr}
theorem fnOk_none {T : List (Addr × Str)} {k : Nat} {a : Addr} {fd : FuncData} {ps : List Str} : FnOk P w K mg base CX0 k a fd ps (spM K w mg T fun _ _ => none) :=
  ⟨(fun vs H Q E h => by
    obtain ⟨θ, ds, ih, d, ih', h1, h2, h3, _⟩ := h
    cases h3), (fun A outer s H args us vs Q E _ _ _ _ h => by
    obtain ⟨θ, ds, ih, d, ih', h1, h2, h3, _⟩ := h
    cases h3)⟩
theorem all_ok (W : W K mg adr fdat aC) (hcd : (fdat .pairs_of).code = .ref ct) (TB : ∀ p ∈ [(ct, Pt)], LamX.TabB base mg p.1 p.2) : ∀ k, (∀ f, FnOk P w K mg base CX0 k (adr f) (fdat f) (prm f) (spM K w mg (TT Pt) ((progs k).1 f))) ∧
    ((∃ j, k = j + 1 ∧ FnOk P w K mg base CX0 j (adr .Closure_init) (fdat .Closure_init) (prm .Closure_init) (spM K w mg (TT Pt) ((progs k).2 .Closure_init))) ∨ (progs k).2 .Closure_init = fun _ _ => none)
  | 0 => ⟨fun f => fnOk_none, .inr rfl⟩
  | k + 1 => by
    obtain ⟨H, H1⟩ := all_ok W hcd TB k
    refine ⟨fun f => ?_, .inl ⟨k, rfl, H .Closure_init⟩⟩
    cases f with
    | is_variable => exact ok_is_variable (c1 := (progs k).2) W H
    | term_size => exact ok_term_size (c1 := (progs k).2) W H
    | variables_of => exact ok_variables_of (c1 := (progs k).2) W H
    | put_in => exact ok_put_in (c1 := (progs k).2) W H
    | pairs_of => exact ok_pairs_of (c1 := (progs k).2) W H hcd TB
    | matched => exact ok_matched (c1 := (progs k).2) W H
    | match_ => exact ok_match_ (c1 := (progs k).2) W H
    | tidy_term => exact ok_tidy_term (c1 := (progs k).2) W H
    | is_variant => exact ok_is_variant (c1 := (progs k).2) W H
    | generalized => exact ok_generalized (c1 := (progs k).2) W H
    | joint_term => exact ok_joint_term (c1 := (progs k).2) W H
    | Closure_init => exact ok_Closure_init (c1 := (progs k).2) W H
    | Closure_note => exact ok_Closure_note (c1 := (progs k).2) W H
    | Closure_go_on => exact ok_Closure_go_on (c1 := (progs k).2) W H
    | Closure_clash => exact ok_Closure_clash (c1 := (progs k).2) W H
    | Closure_edges => exact ok_Closure_edges (c1 := (progs k).2) W H
    | Closure_circle => exact ok_Closure_circle (c1 := (progs k).2) W H
    | Closure_value => exact ok_Closure_value (c1 := (progs k).2) W H
    | Closure_filled => exact ok_Closure_filled (c1 := (progs k).2) W H
    | cut_steps => exact ok_cut_steps (c1 := (progs k).2) W H
    | renumbered => exact ok_renumbered (c1 := (progs k).2) W H
    | unify => exact ok_unify (c1 := (progs k).2) W H H1
    | makes_equal => exact ok_makes_equal (c1 := (progs k).2) W H
    | law_tape => exact ok_law_tape (c1 := (progs k).2) W H
    | law_take => exact ok_law_take (c1 := (progs k).2) W H
    | law_term => exact ok_law_term (c1 := (progs k).2) W H
    | law_values => exact ok_law_values (c1 := (progs k).2) W H
    | law_moved => exact ok_law_moved (c1 := (progs k).2) W H
    | law => exact ok_law (c1 := (progs k).2) W H
end
/-! ### facts by names -/
def at_ : Fn → Str × Option Str
  | .is_variable => ("is_variable", none)
  | .term_size => ("term_size", none)
  | .variables_of => ("variables_of", none)
  | .put_in => ("put_in", none)
  | .pairs_of => ("pairs_of", none)
  | .matched => ("matched", none)
  | .match_ => ("match", none)
  | .tidy_term => ("tidy_term", none)
  | .is_variant => ("is_variant", none)
  | .generalized => ("generalized", none)
  | .joint_term => ("joint_term", none)
  | .Closure_init => ("Closure", some "__init__")
  | .Closure_note => ("Closure", some "note")
  | .Closure_go_on => ("Closure", some "go_on")
  | .Closure_clash => ("Closure", some "clash")
  | .Closure_edges => ("Closure", some "edges")
  | .Closure_circle => ("Closure", some "circle")
  | .Closure_value => ("Closure", some "value")
  | .Closure_filled => ("Closure", some "filled")
  | .cut_steps => ("cut_steps", none)
  | .renumbered => ("renumbered", none)
  | .unify => ("unify", none)
  | .makes_equal => ("makes_equal", none)
  | .law_tape => ("_law_tape", none)
  | .law_take => ("_law_take", none)
  | .law_term => ("_law_term", none)
  | .law_values => ("_law_values", none)
  | .law_moved => ("_law_moved", none)
  | .law => ("law", none)
def dd (f : Fn) : He.DefD := ⟨at_ f, nm f, ql f, defArgs (stt f), defBody (stt f), defScope (stt f), [], []⟩
def fnL : List He.DefD := [dd .is_variable, dd .term_size, dd .variables_of, dd .put_in, dd .pairs_of, dd .matched, dd .match_, dd .tidy_term, dd .is_variant, dd .generalized, dd .joint_term, dd .Closure_init, dd .Closure_note, dd .Closure_go_on, dd .Closure_clash, dd .Closure_edges, dd .Closure_circle, dd .Closure_value, dd .Closure_filled, dd .cut_steps, dd .renumbered, dd .unify, dd .makes_equal, dd .law_tape, dd .law_take, dd .law_term, dd .law_values, dd .law_moved, dd .law]
def faL : List He.Fa := [.glo "is_variable", .glo "term_size", .glo "variables_of", .glo "put_in", .glo "pairs_of", .glo "matched", .glo "match", .glo "tidy_term", .glo "is_variant", .glo "generalized", .glo "joint_term", .glo "cut_steps", .glo "renumbered", .glo "unify", .glo "makes_equal", .glo "_law_tape", .glo "_law_take", .glo "_law_term", .glo "_law_values", .glo "_law_moved", .glo "law", .free "len", .free "sum", .free "all", .free "min", .free "abs", .free "sorted", .free "int", .free "tuple", .free "list", .free "dict", .free "isinstance", .free "enumerate", .free "zip", .free "range", .glo "Closure", .cls "Closure", .mkr "Closure", .meth "Closure" "note", .meth "Closure" "go_on", .meth "Closure" "clash", .meth "Closure" "edges", .meth "Closure" "circle", .meth "Closure" "value", .meth "Closure" "filled", .noat "Closure" "steps", .noat "Closure" "numbers", .noat "Closure" "lefts"]
abbrev R : PySem.W.OpenRow := PySem.W.OpenLaw.row PySem.Challenge.rw_grovehouse_k67_whole_lattice_of_terms
/-! ### the Hook: the defs' facts, and the table of the code object that makes a lambda -/
def codeOf (K : PySem.W.Frag) (f : Addr) : Addr := match K.lookup f with
  | some ⟨_, _, .func fd, _⟩ => (match fd.code with | .ref c => c | _ => 0)
  | _ => 0
def codeOk (K : PySem.W.Frag) (f c : Addr) : Bool := match K.lookup f with
  | some ⟨_, _, .func fd, _⟩ => (match fd.code with | .ref c' => c' == c | _ => false)
  | _ => false
def tabOf (K : PySem.W.Frag) (c : Addr) : Addr := match K.lookup c with
  | some ⟨_, _, .fields vs, _⟩ => (match (vs[11]? : Option Value) with | some (.ref P) => P | _ => 0)
  | _ => 0
def tabE : Option Obj → Bool
  | some ⟨.none, none, .fields vs, sl⟩ => vs.size == 0 && sl.size == 0
  | _ => false
def isLs : Value → Bool
  | .type T => T == "list"
  | _ => false
theorem tabE_ok {o : Option Obj} (h : tabE o = true) : o = some { cls := .none, data := .fields #[] } := by
  unfold tabE at h
  split at h
  · rename_i vs sl
    simp only [Bool.and_eq_true, beq_iff_eq] at h
    rw [Array.size_eq_zero_iff.mp h.1, Array.size_eq_zero_iff.mp h.2]
  · cases h
theorem codeOk_ok {K : PySem.W.Frag} {f c : Addr} {oc : Value} {od : Option Addr} {fd : FuncData} {osl : Array (Option Value)} (h : codeOk K f c = true) (hl : K.lookup f = some ⟨oc, od, .func fd, osl⟩) : fd.code = .ref c := by
  unfold codeOk at h
  rw [hl] at h
  simp only at h
  split at h
  · rename_i c' e
    rw [e, beq_iff_eq.mp h]
  · cases h
def K0 (g : Addr → Option Obj) : PySem.W.Frag := He.frG g (He.asD g 5)
def ptOf (g : Addr → Option Obj) : Addr := tabOf (K0 g) (codeOf (K0 g) (He.fAd (K0 g) ("pairs_of", none)))
def KT (g : Addr → Option Obj) : PySem.W.Frag := He.frG g ((He.asD g 5).filter fun a => a != ptOf g && !(match g a with | some o => isLs o.cls | none => false))
def okT (K : PySem.W.Frag) (Pt : Addr) (o : Option Obj) : Bool :=
  codeOk K (He.fAd K ("pairs_of", none)) (codeOf K (He.fAd K ("pairs_of", none))) && (PySem.W.codeHdIn K (codeOf K (He.fAd K ("pairs_of", none))) Pt && ((K.lookup Pt).isNone && (tabE o && K.all fun p => !isLs p.2.cls)))
def obsT (g : Addr → Option Obj) : He.AlD × Bool := (He.obsD faL fnL (KT g), okT (KT g) (ptOf g) (g (ptOf g)))
theorem frag_all {p : Addr × Obj → Bool} : ∀ {K : PySem.W.Frag} {a : Addr} {o : Obj}, K.all p = true → K.lookup a = some o → ∃ b, p (b, o) = true
  | [], a, o, _, h => by cases h
  | q :: K, a, o, h, e => by
    rw [List.all_cons, Bool.and_eq_true] at h
    obtain ⟨b, ob⟩ := q
    have e : (match a == b with | true => some ob | false => K.lookup a) = some o := e
    cases hb : a == b with
    | true =>
      rw [hb] at e
      cases e
      exact ⟨b, h.1⟩
    | false =>
      rw [hb] at e
      exact frag_all h.2 e
structure Says (h : Heap) (K : PySem.W.Frag) (ct Pt : Addr) : Prop where
  kin : K.In h
  says : He.SaysD faL fnL K
  code : codeOk K (He.fAd K ("pairs_of", none)) ct = true
  hd : PySem.W.codeHdIn K ct Pt = true
  out : K.lookup Pt = none
  tab : h.get? Pt = some { cls := .none, data := .fields #[] }
  nol : ∀ a o, K.lookup a = some o → o.cls ≠ .type "list"
def hookT : PySem.W.Hook where
  α := He.AlD × Bool
  obs := fun s => obsT s.heap.get?
  val := fun _ => (He.valD fnL, true)
  says := fun _ h => ∃ K ct Pt, Says h K ct Pt
  of := fun w s e => by
    have e1 : He.obsD faL fnL (KT s.heap.get?) = He.valD fnL := congrArg Prod.fst e
    have e2 : okT (KT s.heap.get?) (ptOf s.heap.get?) (s.heap.get? (ptOf s.heap.get?)) = true := congrArg Prod.snd e
    unfold okT at e2
    simp only [Bool.and_eq_true, Option.isNone_iff_eq_none] at e2
    refine ⟨_, _, _, He.frG_in, e1, e2.1, e2.2.1, e2.2.2.1, tabE_ok e2.2.2.2.1, fun a o h z => ?_⟩
    obtain ⟨b, q⟩ := frag_all e2.2.2.2.2 h
    rw [z] at q
    simp [isLs] at q
  keeps := fun w h h' x k => by
    obtain ⟨K, ct, Pt, y⟩ := x
    exact ⟨K, ct, Pt, PySem.W.Frag.In.keeps y.kin k, y.says, y.code, y.hd, y.out, k _ _ y.tab, y.nol⟩
def ob (s : PySem.W.SharedT) : He.AlD × Bool := obsT (HandSHeadRun.getT s)
theorem ob_eq (s : PySem.W.SharedT) : ob s = hookT.obs s.abs := by
  have e : HandSHeadRun.getT s = s.abs.heap.get? := funext (HandSHeadRun.getT_eq s)
  unfold ob
  rw [e] <;> rfl
/-- what the plain law must give -/
def LawTrue (k : Nat) : Prop := ∀ ns : List Int, ns.length ≤ 63 → ∃ ih', (progs k).1 .law [.lst (ns.map .int)] [] = some (.bl true, ih')
/-! ### what the head gives -/
theorem w_of {h : Heap} {mg : Str → Option Value} {K : PySem.W.Frag} {ct Pt : Addr} (y : Says h K ct Pt) (G : h.Ns mainGlobals mg) : ∃ fdat : Fn → FuncData, W K mg (fun f => He.fAd K (at_ f)) fdat (He.ga K "Closure") ∧ (fdat .pairs_of).code = .ref ct := by
  have ex : ∀ f : Fn, ∃ fd, FunD K (nm f) (ql f) (defArgs (stt f)) (defBody (stt f)) (defScope (stt f)) [] [] (He.fAd K (at_ f)) fd := by
    intro f
    cases f with
    | is_variable => exact y.says.def_ 0 (d := dd .is_variable) rfl
    | term_size => exact y.says.def_ 1 (d := dd .term_size) rfl
    | variables_of => exact y.says.def_ 2 (d := dd .variables_of) rfl
    | put_in => exact y.says.def_ 3 (d := dd .put_in) rfl
    | pairs_of => exact y.says.def_ 4 (d := dd .pairs_of) rfl
    | matched => exact y.says.def_ 5 (d := dd .matched) rfl
    | match_ => exact y.says.def_ 6 (d := dd .match_) rfl
    | tidy_term => exact y.says.def_ 7 (d := dd .tidy_term) rfl
    | is_variant => exact y.says.def_ 8 (d := dd .is_variant) rfl
    | generalized => exact y.says.def_ 9 (d := dd .generalized) rfl
    | joint_term => exact y.says.def_ 10 (d := dd .joint_term) rfl
    | Closure_init => exact y.says.def_ 11 (d := dd .Closure_init) rfl
    | Closure_note => exact y.says.def_ 12 (d := dd .Closure_note) rfl
    | Closure_go_on => exact y.says.def_ 13 (d := dd .Closure_go_on) rfl
    | Closure_clash => exact y.says.def_ 14 (d := dd .Closure_clash) rfl
    | Closure_edges => exact y.says.def_ 15 (d := dd .Closure_edges) rfl
    | Closure_circle => exact y.says.def_ 16 (d := dd .Closure_circle) rfl
    | Closure_value => exact y.says.def_ 17 (d := dd .Closure_value) rfl
    | Closure_filled => exact y.says.def_ 18 (d := dd .Closure_filled) rfl
    | cut_steps => exact y.says.def_ 19 (d := dd .cut_steps) rfl
    | renumbered => exact y.says.def_ 20 (d := dd .renumbered) rfl
    | unify => exact y.says.def_ 21 (d := dd .unify) rfl
    | makes_equal => exact y.says.def_ 22 (d := dd .makes_equal) rfl
    | law_tape => exact y.says.def_ 23 (d := dd .law_tape) rfl
    | law_take => exact y.says.def_ 24 (d := dd .law_take) rfl
    | law_term => exact y.says.def_ 25 (d := dd .law_term) rfl
    | law_values => exact y.says.def_ 26 (d := dd .law_values) rfl
    | law_moved => exact y.says.def_ 27 (d := dd .law_moved) rfl
    | law => exact y.says.def_ 28 (d := dd .law) rfl
  refine ⟨fun f => (ex f).choose, ?_, ?_⟩
  · exact {
      fn := fun f => (ex f).choose_spec
      g_is_variable := He.glo_ok y.kin G (y.says.fact 0 (f := .glo "is_variable") rfl)
      g_term_size := He.glo_ok y.kin G (y.says.fact 1 (f := .glo "term_size") rfl)
      g_variables_of := He.glo_ok y.kin G (y.says.fact 2 (f := .glo "variables_of") rfl)
      g_put_in := He.glo_ok y.kin G (y.says.fact 3 (f := .glo "put_in") rfl)
      g_pairs_of := He.glo_ok y.kin G (y.says.fact 4 (f := .glo "pairs_of") rfl)
      g_matched := He.glo_ok y.kin G (y.says.fact 5 (f := .glo "matched") rfl)
      g_match_ := He.glo_ok y.kin G (y.says.fact 6 (f := .glo "match") rfl)
      g_tidy_term := He.glo_ok y.kin G (y.says.fact 7 (f := .glo "tidy_term") rfl)
      g_is_variant := He.glo_ok y.kin G (y.says.fact 8 (f := .glo "is_variant") rfl)
      g_generalized := He.glo_ok y.kin G (y.says.fact 9 (f := .glo "generalized") rfl)
      g_joint_term := He.glo_ok y.kin G (y.says.fact 10 (f := .glo "joint_term") rfl)
      g_cut_steps := He.glo_ok y.kin G (y.says.fact 11 (f := .glo "cut_steps") rfl)
      g_renumbered := He.glo_ok y.kin G (y.says.fact 12 (f := .glo "renumbered") rfl)
      g_unify := He.glo_ok y.kin G (y.says.fact 13 (f := .glo "unify") rfl)
      g_makes_equal := He.glo_ok y.kin G (y.says.fact 14 (f := .glo "makes_equal") rfl)
      g_law_tape := He.glo_ok y.kin G (y.says.fact 15 (f := .glo "_law_tape") rfl)
      g_law_take := He.glo_ok y.kin G (y.says.fact 16 (f := .glo "_law_take") rfl)
      g_law_term := He.glo_ok y.kin G (y.says.fact 17 (f := .glo "_law_term") rfl)
      g_law_values := He.glo_ok y.kin G (y.says.fact 18 (f := .glo "_law_values") rfl)
      g_law_moved := He.glo_ok y.kin G (y.says.fact 19 (f := .glo "_law_moved") rfl)
      g_law := He.glo_ok y.kin G (y.says.fact 20 (f := .glo "law") rfl)
      n_len := He.free_ok y.kin G (y.says.fact 21 (f := .free "len") rfl)
      n_sum := He.free_ok y.kin G (y.says.fact 22 (f := .free "sum") rfl)
      n_all := He.free_ok y.kin G (y.says.fact 23 (f := .free "all") rfl)
      n_min := He.free_ok y.kin G (y.says.fact 24 (f := .free "min") rfl)
      n_abs := He.free_ok y.kin G (y.says.fact 25 (f := .free "abs") rfl)
      n_sorted := He.free_ok y.kin G (y.says.fact 26 (f := .free "sorted") rfl)
      n_int := He.free_ok y.kin G (y.says.fact 27 (f := .free "int") rfl)
      n_tuple := He.free_ok y.kin G (y.says.fact 28 (f := .free "tuple") rfl)
      n_list := He.free_ok y.kin G (y.says.fact 29 (f := .free "list") rfl)
      n_dict := He.free_ok y.kin G (y.says.fact 30 (f := .free "dict") rfl)
      n_isinstance := He.free_ok y.kin G (y.says.fact 31 (f := .free "isinstance") rfl)
      n_enumerate := He.free_ok y.kin G (y.says.fact 32 (f := .free "enumerate") rfl)
      n_zip := He.free_ok y.kin G (y.says.fact 33 (f := .free "zip") rfl)
      n_range := He.free_ok y.kin G (y.says.fact 34 (f := .free "range") rfl)
      g_Closure := He.glo_ok y.kin G (y.says.fact 35 (f := .glo "Closure") rfl)
      cl_Closure := He.cls_ok (y.says.fact 36 (f := .cls "Closure") rfl)
      mk_Closure := He.mkr_ok (y.says.fact 37 (f := .mkr "Closure") rfl)
      m_Closure_note := He.meth_ok (y.says.fact 38 (f := .meth "Closure" "note") rfl)
      m_Closure_go_on := He.meth_ok (y.says.fact 39 (f := .meth "Closure" "go_on") rfl)
      m_Closure_clash := He.meth_ok (y.says.fact 40 (f := .meth "Closure" "clash") rfl)
      m_Closure_edges := He.meth_ok (y.says.fact 41 (f := .meth "Closure" "edges") rfl)
      m_Closure_circle := He.meth_ok (y.says.fact 42 (f := .meth "Closure" "circle") rfl)
      m_Closure_value := He.meth_ok (y.says.fact 43 (f := .meth "Closure" "value") rfl)
      m_Closure_filled := He.meth_ok (y.says.fact 44 (f := .meth "Closure" "filled") rfl)
      fld_Closure_steps := fun C e => by
        have e2 := (He.glo_ok y.kin G (y.says.fact 35 (f := .glo "Closure") rfl)).symm.trans e
        cases e2
        exact ⟨He.cls_ok (y.says.fact 36 (f := .cls "Closure") rfl), He.noat_ok (y.says.fact 45 (f := .noat "Closure" "steps") rfl)⟩
      fld_Closure_numbers := fun C e => by
        have e2 := (He.glo_ok y.kin G (y.says.fact 35 (f := .glo "Closure") rfl)).symm.trans e
        cases e2
        exact ⟨He.cls_ok (y.says.fact 36 (f := .cls "Closure") rfl), He.noat_ok (y.says.fact 46 (f := .noat "Closure" "numbers") rfl)⟩
      fld_Closure_lefts := fun C e => by
        have e2 := (He.glo_ok y.kin G (y.says.fact 35 (f := .glo "Closure") rfl)).symm.trans e
        cases e2
        exact ⟨He.cls_ok (y.says.fact 36 (f := .cls "Closure") rfl), He.noat_ok (y.says.fact 47 (f := .noat "Closure" "lefts") rfl)⟩
    }
  · have F := (ex .pairs_of).choose_spec
    obtain ⟨oc, od, dV, kV, doc, pm, an, cdv, ct', osl, e, lk, _⟩ := F.ex
    exact codeOk_ok y.code lk
end Gh.K67
end
section
set_option Elab.async false
set_option linter.all false
set_option maxRecDepth 100000
set_option maxHeartbeats 0
namespace Gh.K67
open PySem PySem.Spec PyProof.Rows L2
theorem run (w : World) : HandSHeadRun.RunEq R (PySem.W.view R.prog [24]) hookT ob 4000 ["is_variable", "term_size", "variables_of", "put_in", "pairs_of", "matched", "match", "tidy_term", "is_variant", "generalized", "joint_term", "cut_steps", "renumbered", "unify", "makes_equal", "_law_tape", "_law_take", "_law_term", "_law_values", "_law_moved", "Closure"] w := by
  intro os
  kernel_rfl
end Gh.K67
end
section
set_option Elab.async false
set_option linter.all false
set_option maxRecDepth 100000
set_option maxHeartbeats 0
namespace Gh.K67
open PySem PySem.Spec PyProof.Rows L2
/-- the law's promise at the head's heap -/
theorem at_head {k : Nat} (hl : LawTrue k) {P : Program} {w : World} {mg : Str → Option Value} {h : Heap} {fa : Addr} (Y : hookT.says w h) (G : h.Ns mainGlobals mg) (hmg : mg ("law" : Str) = some (.ref fa)) : ∃ K : PySem.W.Frag, K.In h ∧
    ∃ (fd : FuncData) (cs : List (Addr × Addr)) (sp : Sp), (∀ p ∈ cs, h.get? p.2 = some { cls := .none, data := .fields #[] }) ∧ (∀ p ∈ cs, K.lookup p.2 = none) ∧ (∀ p ∈ cs, PySem.W.CodeHd h p.1 p.2) ∧ (∀ (s : Shared) (u : Value), BindsTo s fd ⟨[u], []⟩ [("script", u)]) ∧
    (∀ (H : Hp) (a : Addr) (ns : List Int), ns.length ≤ 63 → (∀ z ∈ ns, Builtin.Int.intBits z ≤ 1048576) → (∀ p ∈ cs, H p.2 = some (.tbl #[])) → SqL K H a (ns.map V.int) → sp [.ref a] H (fun v _ => v = .bl true) fun _ _ _ => False) ∧
    ∀ base : Heap, K.In base → base.Ns mainGlobals mg → (∀ p ∈ cs, LamX.TabB base mg p.1 p.2) → FnOk P w K mg base CX0 k fa fd ["script"] sp := by
  obtain ⟨K, ct, Pt, y⟩ := Y
  obtain ⟨fdat, W, hcd⟩ := w_of y G
  have e := hmg.symm.trans W.g_law
  cases e
  have b : ∀ (s : Shared) (u : Value), BindsTo s (fdat .law) ⟨[u], []⟩ [("script", u)] := by
    have b0 := FunD.bindsA (ps := ["script"]) (W.fn .law) fun _ _ _ _ _ _ us hl => match us, hl with | [_], _ => rfl
    exact fun s u => b0 s [u] rfl
  refine ⟨K, y.kin, fdat .law, [(ct, Pt)], spM K w mg (TT Pt) ((progs k).1 .law), fun p hp => ?_, fun p hp => ?_, fun p hp => ?_, b, fun H a ns hn _ hT hS => ?_, fun base _ _ TB => (all_ok W hcd TB k).1 .law⟩
  · rw [List.mem_singleton.mp hp]
    exact y.tab
  · rw [List.mem_singleton.mp hp]
    exact y.out
  · rw [List.mem_singleton.mp hp]
    exact PySem.W.codeHd_of_K y.kin y.hd
  · obtain ⟨ih', hr⟩ := hl ns hn
    have hT1 : H Pt = some (.tbl #[]) := hT (ct, Pt) (List.mem_singleton.mpr rfl)
    refine ⟨⟨[], []⟩, [.lst (ns.map .int)], [], .bl true, ih', ⟨fun p hp => ?_, fun b hb => absurd hb (by simp), rfl, List.nodup_nil, fun n a o h1 h2 => ?_⟩, .cons (.lst ⟨by simp, by simp⟩ ?_ (ints_rd ns)) .nil, hr, fun θ' H' v _ _ r => ?_⟩
    · have e1 : p.1 = Pt := by rw [List.mem_singleton.mp hp]
      rw [e1]
      exact ⟨#[], hT1, True.intro, fun pos cv hc => by
        have z : codeAmong pos [] = some cv := hc
        simp [codeAmong] at z⟩
    · simp at h1
    · rcases hS with z | ⟨o, its, n, hk, hc, _⟩
      · exact z
      · exact absurd hc (y.nol a o hk)
    · cases r
      rfl
end Gh.K67
open PySem PySem.W PySem.Calls PyProof.Rows
theorem k67_of (hl : Gh.K67.LawTrue 150) : PySem.Challenge.rw_grovehouse_k67_whole_lattice_of_terms.Holds := by
  w_on; o_law
  refine HandSHeadRun.head_any (r := OpenLaw.row PySem.Challenge.rw_grovehouse_k67_whole_lattice_of_terms) (q := view (OpenLaw.row PySem.Challenge.rw_grovehouse_k67_whole_lattice_of_terms).prog [24]) (H := Gh.K67.hookT) (ob := Gh.K67.ob) (M := 4000)
    (loose := ["is_variable", "term_size", "variables_of", "put_in", "pairs_of", "matched", "match", "tidy_term", "is_variant", "generalized", "joint_term", "cut_steps", "renumbered", "unify", "makes_equal", "_law_tape", "_law_take", "_law_term", "_law_values", "_law_moved", "Closure"])
    (d := HandSHeadRun.topDef (OpenLaw.row PySem.Challenge.rw_grovehouse_k67_whole_lattice_of_terms).prog 24) (kwd := []) Gh.K67.ob_eq
    (by kernel_rfl) (fun s => by kernel_rfl) Gh.K67.run (by kernel_rfl) (by kernel_rfl) (by kernel_rfl) (by rfl) (by first | assumption | decide +kernel) (by decide +kernel) ⟨rfl, rfl, rfl, rfl, rfl, by decide +kernel⟩ ?hw ?hc
  case hw => w_witness2
  case hc =>
    refine LamX.walk_ofTsE (l := PySem.Challenge.rw_grovehouse_k67_whole_lattice_of_terms) (n := 63) (k := 150) (x := "script") (CX := fun _ => L2.CX0) rfl (by decide) (by kernel_rfl) ⟨rfl, by decide, by decide⟩ ?F (fun _ _ _ _ _ z => z)
    intro w mg fa h Y G hmg0
    have hmg : mg ("law" : PySem.Str) = some (.ref fa) := by
      have e : (HandSHeadRun.topDef (OpenLaw.row PySem.Challenge.rw_grovehouse_k67_whole_lattice_of_terms).prog 24).name = ("law" : PySem.Str) := by kernel_rfl
      rw [← e]
      exact hmg0
    exact Gh.K67.at_head hl Y G hmg
end
theorem PySem.Challenge.cw_grovehouse_k67_whole_lattice_of_terms_holds : PySem.Challenge.rw_grovehouse_k67_whole_lattice_of_terms.Holds := by
  exact k67_of Gh.K67.law_true
